import PyProof.Rows.All
import Wide.All
import OpenK.AllK
import Wide.FinOn
import HandS.ForMost
import HandS.ForExc
import HandS.Flow
import HandS.IsInst
import HandS.Deep
import HandS.TupAny
import HandS.Zip
import KE.GoesMore
import KE.KTupSum
import HandS.SetFor
import HandS.Strs
import HandS.TupSets
import HandS.SortRule
import HandS.SortInts
import HandS.Conv
import HandS.ExcIs
import HandS.TryMany
import HandS.Style
import HandS.TupLe
import HandS.TupMul
import HandS.DictTup
import HandS.Text
import HandS.Codes
import HandS.RaiseMore
import KE.KCallOwn
import HandS.ExcInit
import HandS.ExcField
import KE.KExcIs
import HandS.Replace
import PyProof.StrLawsTight
import PySem.Challenge.RW_upwardmoves_k12_exceptions
set_option Elab.async false
set_option linter.all false
set_option maxRecDepth 100000
set_option maxHeartbeats 2000000
set_option autoImplicit false
/-! PD: judgements over plain data (PyData), on top of the hand layer. -/
namespace UP
open PySem PySem.Spec PyProof.Rows L2

/-! ### heaps: G is the part that nobody writes -/
/-- every tuple of the heap is one that nobody writes -/
def Tc (G H : Hp) : Prop := ∀ a xs, H a = some (.tup xs) → G a = some (.tup xs)
structure Grow (G H G' H' : Hp) : Prop where
  gg : Same G G'
  hh : Same H H'
  sub : Same G' H'
  sep : ∀ a, H a ≠ none → G a = none → G' a = none
  tc : Tc G H → Tc G' H'
theorem Grow.refl {G H : Hp} (h : Same G H) : Grow G H G H := ⟨Same.refl _, Same.refl _, h, fun _ _ h => h, fun t => t⟩
theorem Same.ne {H H' : Hp} (h : Same H H') {a : Addr} (n : H a ≠ none) : H' a ≠ none := fun e => n (h.free e)
theorem Grow.trans {G H G1 H1 G2 H2 : Hp} (a : Grow G H G1 H1) (b : Grow G1 H1 G2 H2) : Grow G H G2 H2 :=
  ⟨a.gg.trans b.gg, a.hh.trans b.hh, b.sub, fun x n e => b.sep x (Same.ne a.hh n) (a.sep x n e), fun t => b.tc (a.tc t)⟩
theorem Tc.updH {G H : Hp} {p : Addr} {o : HO} (no : ∀ xs, o ≠ .tup xs) (t : Tc G H) : Tc G (upd H p o) := fun a xs e => by
  by_cases h : a = p
  · subst h; rw [upd_same] at e; exact absurd (Option.some.inj e) (no xs)
  · rw [upd_ne h] at e; exact t a xs e
theorem Tc.gg {G G' H : Hp} (s : Same G G') (t : Tc G H) : Tc G' H := fun a xs e => s _ _ (t a xs e)
theorem same_upd {H : Hp} {p : Addr} {o : HO} (h : H p = none) : Same H (upd H p o) := fun b x e => by
  rw [upd_ne (ne_of_none e h)]
  exact e
/-- a new object of the part that nobody writes -/
theorem Grow.new {G H : Hp} (s : Same G H) {p : Addr} (o : HO) (h : H p = none) : Grow G H (upd G p o) (upd H p o) := by
  have hg : G p = none := s.free h
  refine ⟨same_upd hg, same_upd h, fun b x e => ?_, fun a n e => ?_, fun t b xs e => ?_⟩
  · by_cases hb : b = p
    · subst hb; rw [upd_same] at e ⊢; exact e
    · rw [upd_ne hb] at e ⊢; exact s _ _ e
  · have : a ≠ p := fun z => n (by rw [z]; exact h)
    rw [upd_ne this]; exact e
  · by_cases hb : b = p
    · subst hb; rw [upd_same] at e ⊢; exact e
    · rw [upd_ne hb] at e ⊢; exact t _ _ e
/-- a new object of one's own -/
theorem Grow.own {G H : Hp} (s : Same G H) {p : Addr} (o : HO) (h : H p = none) (no : ∀ xs, o ≠ .tup xs := by exact fun _ z => nomatch z) : Grow G H G (upd H p o) :=
  ⟨Same.refl _, same_upd h, fun b x e => same_upd h b x (s b x e), fun _ _ e => e, fun t => t.updH no⟩

/-! ### data in the heap: lists and tuples that are tracked; the script as a dict of its numbers -/
def scriptD (ns : List Int) : PyData := .dict (ns.map fun n => (PyData.int n, PyData.none))
theorem SqL.same {K : PySem.W.Frag} {G H : Hp} {a : Addr} {xs : List V} (e : Same G H) (h : SqL K G a xs) : SqL K H a xs := h.elim (fun r => .inl (r.elim (fun r => .inl (e _ _ r)) fun ⟨o, r⟩ => .inr ⟨o, e _ _ r⟩)) .inr
mutual
inductive Dq (K : PySem.W.Frag) (H : Hp) : V → PyData → Prop
  | non : Dq K H .non .none
  | bl (b : Bool) : Dq K H (.bl b) (.bool b)
  | int (i : Int) : Dq K H (.int i) (.int i)
  | str (x : Str) : Dq K H (.str x) (.str x)
  | lst {a : Addr} {xs : List V} {ds : List PyData} : H a = some (.lst xs) → xs.length ≤ sizeLine → DqAll K H xs ds → Dq K H (.ref a) (.list ds)
  | tup {a : Addr} {xs : List V} {ds : List PyData} : H a = some (.tup xs) → xs.length ≤ sizeLine → DqAll K H xs ds → Dq K H (.ref a) (.tuple ds)
  | scr {a : Addr} {ns : List Int} {kvs : List (PyData × PyData)} : SqL K H a (ns.map V.int) → kvs = (ns.map fun n => (PyData.int n, PyData.none)) → Dq K H (.ref a) (.dict kvs)
inductive DqAll (K : PySem.W.Frag) (H : Hp) : List V → List PyData → Prop
  | nil : DqAll K H [] []
  | cons {v : V} {vs : List V} {d : PyData} {ds : List PyData} : Dq K H v d → DqAll K H vs ds → DqAll K H (v :: vs) (d :: ds)
end
section
variable {K : PySem.W.Frag} {G H : Hp}
mutual
theorem Dq.mono (e : Same G H) : ∀ (d : PyData) {v : V}, Dq K G v d → Dq K H v d
  | .none, _, h => by cases h; exact .non
  | .bool b, _, h => by cases h; exact .bl b
  | .int i, _, h => by cases h; exact .int i
  | .str x, _, h => by cases h; exact .str x
  | .list ds, _, h => by
    cases h with
    | lst hs hz ha => exact .lst (e _ _ hs) hz (DqAll.mono e ds ha)
  | .tuple ds, _, h => by
    cases h with
    | tup hs hz ha => exact .tup (e _ _ hs) hz (DqAll.mono e ds ha)
  | .dict _, _, h => by
    cases h with
    | scr hs he => exact .scr (SqL.same e hs) he
theorem DqAll.mono (e : Same G H) : ∀ (ds : List PyData) {vs : List V}, DqAll K G vs ds → DqAll K H vs ds
  | [], _, h => by cases h; exact .nil
  | d :: ds, _, h => by
    cases h with
    | cons h1 h2 => exact .cons (Dq.mono e d h1) (DqAll.mono e ds h2)
end
mutual
/-- no script within -/
def plainD : PyData → Bool
  | .list ds => plainDs ds
  | .tuple ds => plainDs ds
  | .dict _ => false
  | _ => true
def plainDs : List PyData → Bool
  | [] => true
  | d :: ds => plainD d && plainDs ds
end
mutual
theorem Dq.dp : ∀ (d : PyData) {v : V}, plainD d = true → Dq K H v d → Dp K H v d
  | .none, _, _, h => by cases h; exact .non
  | .bool b, _, _, h => by cases h; exact .bl b
  | .int i, _, _, h => by cases h; exact .int i
  | .str x, _, _, h => by cases h; exact .str x
  | .list ds, _, p, h => by
    cases h with
    | lst hs hz ha => exact .lst (SqL.of hs) (DqAll.dp ds p ha)
  | .tuple ds, _, p, h => by
    cases h with
    | tup hs hz ha => exact .tup (SqT.of hs) (DqAll.dp ds p ha)
  | .dict _, _, p, _ => by cases p
theorem DqAll.dp : ∀ (ds : List PyData) {vs : List V}, plainDs ds = true → DqAll K H vs ds → DpAll K H vs ds
  | [], _, _, h => by cases h; exact .nil
  | d :: ds, _, p, h => by
    have p' : (plainD d && plainDs ds) = true := p
    rw [Bool.and_eq_true] at p'
    cases h with
    | cons h1 h2 => exact .cons (Dq.dp d p'.1 h1) (DqAll.dp ds p'.2 h2)
end
theorem DqAll.length : ∀ {vs : List V} {ds : List PyData}, DqAll K G vs ds → vs.length = ds.length
  | _, _, .nil => rfl
  | _, _, .cons _ t => by rw [List.length_cons, List.length_cons, DqAll.length t]
theorem DqAll.get : ∀ {vs : List V} {ds : List PyData} {i : Nat} {v : V}, DqAll K G vs ds → vs[i]? = some v → ∃ d, ds[i]? = some d ∧ Dq K G v d
  | _, _, _, _, .nil, e => by simp at e
  | _, _, 0, _, .cons h _, e => by
    have e := Option.some.inj e
    subst e
    exact ⟨_, rfl, h⟩
  | _, _, i + 1, _, .cons _ t, e => DqAll.get (i := i) t e
theorem DqAll.get' : ∀ {vs : List V} {ds : List PyData} {i : Nat} {d : PyData}, DqAll K G vs ds → ds[i]? = some d → ∃ v, vs[i]? = some v ∧ Dq K G v d
  | _, _, _, _, .nil, e => by simp at e
  | _, _, 0, _, .cons h _, e => by
    have e := Option.some.inj e
    subst e
    exact ⟨_, rfl, h⟩
  | _, _, i + 1, _, .cons _ t, e => DqAll.get' (i := i) t e
theorem DqAll.append : ∀ {vs ws : List V} {ds es : List PyData}, DqAll K G vs ds → DqAll K G ws es → DqAll K G (vs ++ ws) (ds ++ es)
  | _, _, _, _, .nil, s => s
  | _, _, _, _, .cons r t, s => .cons r (DqAll.append t s)
theorem DqAll.take : ∀ {vs : List V} {ds : List PyData} (n : Nat), DqAll K G vs ds → DqAll K G (vs.take n) (ds.take n)
  | _, _, 0, _ => .nil
  | _, _, _ + 1, .nil => .nil
  | _, _, n + 1, .cons r t => .cons r (DqAll.take n t)
theorem DqAll.drop : ∀ {vs : List V} {ds : List PyData} (n : Nat), DqAll K G vs ds → DqAll K G (vs.drop n) (ds.drop n)
  | _, _, 0, r => r
  | _, _, _ + 1, .nil => .nil
  | _, _, n + 1, .cons _ t => DqAll.drop n t
theorem DqAll.set {v : V} {d : PyData} (h : Dq K G v d) : ∀ {vs : List V} {ds : List PyData} (n : Nat), DqAll K G vs ds → DqAll K G (vs.set n v) (ds.set n d)
  | _, _, _, .nil => .nil
  | _, _, 0, .cons _ t => .cons h t
  | _, _, n + 1, .cons r t => .cons r (DqAll.set h n t)
theorem DqAll.ints : ∀ {vs : List V} {ns : List Int}, DqAll K G vs (ns.map PyData.int) → vs = ns.map V.int
  | vs, [], h => by cases h; rfl
  | vs, n :: ns, h => by
    cases h with
    | cons h1 h2 =>
      cases h1
      rw [DqAll.ints h2]; rfl
theorem DqAll.of_ints (ns : List Int) : DqAll K G (ns.map V.int) (ns.map PyData.int) := by
  induction ns with
  | nil => exact .nil
  | cons n ns ih => exact .cons (.int n) ih
end

/-! ### slots -/
/-- a thing of one's own: what is true of the value, its objects, the heaps -/
structure Res where
  holds : V → List Addr → Hp → Hp → Prop
  stab : ∀ v fp G H G' H', holds v fp G H → Same G G' → (∀ a ∈ fp, H' a = H a) → holds v fp G' H'
inductive Slot where
  | un
  | d (x : PyData)
  | res (R : Res)
abbrev DEnv := List Slot
def SlotAt (K : PySem.W.Frag) (G H : Hp) : Slot → Option V → List Addr → Prop
  | .un, _, fp => fp = []
  | .d x, o, fp => fp = [] ∧ ∃ v, o = some v ∧ Dq K G v x
  | .res R, o, fp => ∃ v, o = some v ∧ R.holds v fp G H
/-- a list of one's own -/
def ownL (K : PySem.W.Frag) (ds : List PyData) : Res where
  holds := fun v fp G H => ∃ a vs, v = .ref a ∧ fp = [a] ∧ H a = some (.lst vs) ∧ vs.length ≤ sizeLine ∧ DqAll K G vs ds
  stab := fun v fp G H G' H' ⟨a, vs, e1, e2, e3, z, e4⟩ g h => ⟨a, vs, e1, e2, by rw [h a (by rw [e2]; exact List.mem_singleton.mpr rfl)]; exact e3, z, DqAll.mono g ds e4⟩
abbrev Slot.own (K : PySem.W.Frag) (ds : List PyData) : Slot := .res (ownL K ds)

/-- a def's heaps at its start -/
structure Bs where
  g : Hp
  h : Hp
  tc : Tc g h
structure Fp (K : PySem.W.Frag) (B : Bs) (G H : Hp) (σ : L2.St) (ρ : DEnv) (fp : Nat → List Addr) : Prop where
  at_ : ∀ i s o, ρ[i]? = some s → σ[i]? = some o → SlotAt K G H s o (fp i)
  apart : ∀ i j a, a ∈ fp i → a ∈ fp j → i = j
  own : ∀ i a, a ∈ fp i → G a = none ∧ B.2 a = none ∧ H a ≠ none
structure En (K : PySem.W.Frag) (B : Bs) (G H : Hp) (σ : L2.St) (ρ : DEnv) : Prop where
  gr : Grow B.1 B.2 G H
  len : ρ.length = σ.length
  fp : ∃ fp, Fp K B G H σ ρ fp
section
variable {K : PySem.W.Frag} {B : Bs} {G H G' H' : Hp} {σ : L2.St} {ρ : DEnv}
theorem SlotAt.grow {s : Slot} {o : Option V} {fp : List Addr} (h : SlotAt K G H s o fp) (g : Same G G') (e : ∀ a ∈ fp, H' a = H a) : SlotAt K G' H' s o fp := by
  cases s with
  | un => exact h
  | d x => obtain ⟨h1, v, h2, h3⟩ := h; exact ⟨h1, v, h2, Dq.mono g x h3⟩
  | res R => obtain ⟨v, h1, h2⟩ := h; exact ⟨v, h1, R.stab _ _ _ _ _ _ h2 g e⟩
theorem Same.eq_of {H H' : Hp} (h : Same H H') {a : Addr} (n : H a ≠ none) : H' a = H a := by
  cases e : H a with
  | none => exact absurd e n
  | some o => exact h a o e
theorem En.grow (en : En K B G H σ ρ) (g : Grow G H G' H') : En K B G' H' σ ρ := by
  obtain ⟨gr, len, fp, F⟩ := en
  refine ⟨gr.trans g, len, fp, fun i s o h1 h2 => (F.at_ i s o h1 h2).grow g.gg fun a ha => Same.eq_of g.hh (F.own i a ha).2.2, F.apart, fun i a ha => ?_⟩
  obtain ⟨h1, h2, h3⟩ := F.own i a ha
  exact ⟨g.sep a h3 h1, h2, Same.ne g.hh h3⟩
theorem En.sub (en : En K B G H σ ρ) : Same G H := en.gr.sub
/-- data into a slot -/
theorem En.set (en : En K B G H σ ρ) {i : Nat} {v : V} {x : PyData} (h : Dq K G v x) : En K B G H (σ.set i (some v)) (ρ.set i (.d x)) := by
  obtain ⟨gr, len, fp, F⟩ := en
  refine ⟨gr, by simpa using len, fun j => if j = i then [] else fp j, fun j s o h1 h2 => ?_, fun j k a h1 h2 => ?_, fun j a ha => ?_⟩
  · by_cases hj : j = i
    · subst hj
      rw [if_pos rfl]
      by_cases hl : j < ρ.length
      · rw [List.getElem?_set_self hl] at h1
        rw [List.getElem?_set_self (by rw [← len]; exact hl)] at h2
        cases h1; cases h2
        exact ⟨rfl, v, rfl, h⟩
      · rw [List.getElem?_eq_none (by simpa using hl)] at h1; cases h1
    · rw [if_neg hj]
      rw [List.getElem?_set_ne (Ne.symm hj)] at h1 h2
      exact F.at_ j s o h1 h2
  · by_cases hj : j = i
    · rw [if_pos hj] at h1; cases h1
    · by_cases hk : k = i
      · rw [if_pos hk] at h2; cases h2
      · rw [if_neg hj] at h1; rw [if_neg hk] at h2
        exact F.apart j k a h1 h2
  · by_cases hj : j = i
    · rw [if_pos hj] at ha; cases ha
    · rw [if_neg hj] at ha; exact F.own j a ha
/-- a new thing of one's own into a slot -/
theorem En.setRes (en : En K B G H σ ρ) (g : Grow G H G' H') {i : Nat} {v : V} {R : Res} {nf : List Addr} (h : R.holds v nf G' H') (new : ∀ a ∈ nf, H a = none ∧ G' a = none ∧ H' a ≠ none) : En K B G' H' (σ.set i (some v)) (ρ.set i (.res R)) := by
  have en' := en.grow g
  obtain ⟨gr0, _, fp0, F0⟩ := en
  refine ⟨en'.gr, by simpa using en'.len, fun j => if j = i then nf else fp0 j, fun j s o h1 h2 => ?_, fun j k a h1 h2 => ?_, fun j a ha => ?_⟩
  · by_cases hj : j = i
    · subst hj
      rw [if_pos rfl]
      by_cases hl : j < ρ.length
      · rw [List.getElem?_set_self hl] at h1
        rw [List.getElem?_set_self (by rw [← en'.len]; exact hl)] at h2
        cases h1; cases h2
        exact ⟨v, rfl, h⟩
      · rw [List.getElem?_eq_none (by simpa using hl)] at h1; cases h1
    · rw [if_neg hj]
      rw [List.getElem?_set_ne (Ne.symm hj)] at h1 h2
      exact (F0.at_ j s o h1 h2).grow g.gg fun a ha => Same.eq_of g.hh (F0.own j a ha).2.2
  · by_cases hj : j = i
    · rw [if_pos hj] at h1
      by_cases hk : k = i
      · rw [hj, hk]
      · rw [if_neg hk] at h2
        exact absurd (new a h1).1 (F0.own k a h2).2.2
    · rw [if_neg hj] at h1
      by_cases hk : k = i
      · rw [if_pos hk] at h2
        exact absurd (new a h2).1 (F0.own j a h1).2.2
      · rw [if_neg hk] at h2
        exact F0.apart j k a h1 h2
  · by_cases hj : j = i
    · rw [if_pos hj] at ha
      obtain ⟨n1, n2, n3⟩ := new a ha
      exact ⟨n2, gr0.hh.free n1, n3⟩
    · rw [if_neg hj] at ha
      obtain ⟨h1, h2, h3⟩ := F0.own j a ha
      exact ⟨g.sep a h3 h1, h2, Same.ne g.hh h3⟩
/-- what is in a slot -/
theorem En.get (en : En K B G H σ ρ) {i : Nat} {x : PyData} (h : ρ[i]? = some (.d x)) : ∃ v, σ[i]? = some (some v) ∧ Dq K G v x := by
  obtain ⟨gr, len, fp, F⟩ := en
  have hl : i < σ.length := by rw [← len]; exact (List.getElem?_eq_some_iff.mp h).1
  obtain ⟨_, v, e, q⟩ := F.at_ i _ _ h (List.getElem?_eq_getElem hl)
  exact ⟨v, by rw [List.getElem?_eq_getElem hl, e], q⟩
theorem En.getRes (en : En K B G H σ ρ) {i : Nat} {R : Res} (h : ρ[i]? = some (.res R)) : ∃ v nf, σ[i]? = some (some v) ∧ R.holds v nf G H ∧ ∀ a ∈ nf, G a = none ∧ B.2 a = none ∧ H a ≠ none := by
  obtain ⟨gr, len, fp, F⟩ := en
  have hl : i < σ.length := by rw [← len]; exact (List.getElem?_eq_some_iff.mp h).1
  obtain ⟨v, e, q⟩ := F.at_ i _ _ h (List.getElem?_eq_getElem hl)
  exact ⟨v, fp i, by rw [List.getElem?_eq_getElem hl, e], q, fun a ha => F.own i a ha⟩
theorem En.getOwn (en : En K B G H σ ρ) {i : Nat} {ds : List PyData} (h : ρ[i]? = some (.own K ds)) : ∃ a vs, σ[i]? = some (some (.ref a)) ∧ H a = some (.lst vs) ∧ vs.length ≤ sizeLine ∧ DqAll K G vs ds ∧ G a = none ∧ B.2 a = none := by
  obtain ⟨v, nf, e, ⟨a, vs, e1, e2, e3, z, e4⟩, q⟩ := en.getRes h
  subst e1 e2
  obtain ⟨q1, q2, _⟩ := q a (List.mem_singleton.mpr rfl)
  exact ⟨a, vs, e, e3, z, e4, q1, q2⟩
/-- the general write: the slot's objects nf become nf', inside H' -/
theorem En.rewrite (en : En K B G H σ ρ) {i : Nat} {R R' : Res} {v : V} {nf nf' : List Addr} {fp : Nat → List Addr} (F : Fp K B G H σ ρ fp) (hi : fp i = nf) (hl : i < ρ.length) (hv : σ[i]? = some (some v)) (gr : Grow B.1 B.2 G H')
    (h' : R'.holds v nf' G H') (out : ∀ a, a ∉ nf → H a ≠ none → H' a = H a) (sub : ∀ a ∈ nf', a ∈ nf ∨ H a = none) (new : ∀ a ∈ nf', H' a ≠ none) : En K B G H' σ (ρ.set i (.res R')) := by
  have len := en.len
  refine ⟨gr, by simpa using len, fun j => if j = i then nf' else fp j, fun j s o h1 h2 => ?_, fun j k a h1 h2 => ?_, fun j a ha => ?_⟩
  · by_cases hj : j = i
    · subst hj
      rw [if_pos rfl]
      rw [List.getElem?_set_self hl] at h1
      rw [hv] at h2
      cases h1; cases h2
      exact ⟨v, rfl, h'⟩
    · rw [if_neg hj]
      rw [List.getElem?_set_ne (Ne.symm hj)] at h1
      refine (F.at_ j s o h1 h2).grow (Same.refl _) fun a ha => out a (fun z => hj (F.apart j i a ha (by rw [hi]; exact z))) (F.own j a ha).2.2
  · by_cases hj : j = i
    · rw [if_pos hj] at h1
      by_cases hk : k = i
      · rw [hj, hk]
      · rw [if_neg hk] at h2
        rcases sub a h1 with z | z
        · exact absurd (F.apart k i a h2 (by rw [hi]; exact z)) hk
        · exact absurd z (F.own k a h2).2.2
    · rw [if_neg hj] at h1
      by_cases hk : k = i
      · rw [if_pos hk] at h2
        rcases sub a h2 with z | z
        · exact absurd (F.apart j i a h1 (by rw [hi]; exact z)) hj
        · exact absurd z (F.own j a h1).2.2
      · rw [if_neg hk] at h2
        exact F.apart j k a h1 h2
  · by_cases hj : j = i
    · rw [if_pos hj] at ha
      rcases sub a ha with z | z
      · obtain ⟨h1, h2, h3⟩ := F.own i a (by rw [hi]; exact z)
        exact ⟨h1, h2, new a ha⟩
      · exact ⟨en.gr.sub.free z, en.gr.hh.free z, new a ha⟩
    · rw [if_neg hj] at ha
      obtain ⟨h1, h2, h3⟩ := F.own j a ha
      exact ⟨h1, h2, by rw [out a (fun z => hj (F.apart j i a ha (by rw [hi]; exact z))) h3]; exact h3⟩
/-- an own list changed -/
theorem En.putOwn (en : En K B G H σ ρ) {i : Nat} {ds ds' : List PyData} (h : ρ[i]? = some (.own K ds)) {a : Addr} {vs' : List V} (ha : σ[i]? = some (some (.ref a))) (hz : vs'.length ≤ sizeLine) (hd : DqAll K G vs' ds') : En K B G (upd H a (.lst vs')) σ (ρ.set i (.own K ds')) := by
  obtain ⟨fp, F⟩ := en.fp
  have hl : i < ρ.length := (List.getElem?_eq_some_iff.mp h).1
  obtain ⟨v, e, a', vs, e1, e2, e3, z, e4⟩ := F.at_ i _ _ h ha
  cases e; cases e1
  obtain ⟨g1, g2, g3⟩ := F.own i a (by rw [e2]; exact List.mem_singleton.mpr rfl)
  have gr : Grow B.1 B.2 G (upd H a (.lst vs')) := by
    refine ⟨en.gr.gg, fun b o q => ?_, fun b o q => ?_, en.gr.sep, fun t => (en.gr.tc t).updH fun _ z => nomatch z⟩
    · rw [upd_ne (fun z => by rw [z, g2] at q; cases q)]; exact en.gr.hh b o q
    · rw [upd_ne (fun z => by rw [z, g1] at q; cases q)]; exact en.gr.sub b o q
  refine en.rewrite F e2 hl ha gr (R := ownL K ds) (R' := ownL K ds') (nf' := [a]) ⟨a, vs', rfl, rfl, upd_same, hz, hd⟩ (fun b hb _ => upd_ne fun z => hb (by rw [z]; exact List.mem_singleton.mpr rfl)) (fun b hb => .inl hb) fun b hb => ?_
  rw [List.mem_singleton.mp hb, upd_same]
  exact fun z => nomatch z
/-- an own list becomes data -/
theorem En.freeze (en : En K B G H σ ρ) {i : Nat} {ds : List PyData} (h : ρ[i]? = some (.own K ds)) : ∃ G', En K B G' H σ (ρ.set i (.d (.list ds))) := by
  obtain ⟨fp, F⟩ := en.fp
  have hl : i < ρ.length := (List.getElem?_eq_some_iff.mp h).1
  have hl' : i < σ.length := by rw [← en.len]; exact hl
  obtain ⟨v, e, a, vs, e1, e2, e3, z, e4⟩ := F.at_ i _ _ h (List.getElem?_eq_getElem hl')
  subst e1
  obtain ⟨g1, g2, g3⟩ := F.own i a (by rw [e2]; exact List.mem_singleton.mpr rfl)
  have sg : Same G (upd G a (.lst vs)) := same_upd g1
  refine ⟨upd G a (.lst vs), ⟨en.gr.gg.trans sg, en.gr.hh, fun b o q => ?_, fun b n q => ?_, fun t => (en.gr.tc t).gg sg⟩, by simpa using en.len, fun j => if j = i then [] else fp j, fun j s o h1 h2 => ?_, fun j k b h1 h2 => ?_, fun j b hb => ?_⟩
  · by_cases hb : b = a
    · subst hb; rw [upd_same] at q; cases q; exact e3
    · rw [upd_ne hb] at q; exact en.gr.sub b o q
  · have : b ≠ a := fun z => n (by rw [z]; exact g2)
    rw [upd_ne this]; exact en.gr.sep b n q
  · by_cases hj : j = i
    · subst hj
      rw [if_pos rfl]
      rw [List.getElem?_set_self hl] at h1
      rw [List.getElem?_eq_getElem hl', e] at h2
      cases h1; cases h2
      exact ⟨rfl, _, rfl, .lst upd_same z (DqAll.mono sg ds e4)⟩
    · rw [if_neg hj]
      rw [List.getElem?_set_ne (Ne.symm hj)] at h1
      exact (F.at_ j s o h1 h2).grow sg fun _ _ => rfl
  · by_cases hj : j = i
    · rw [if_pos hj] at h1; cases h1
    · by_cases hk : k = i
      · rw [if_pos hk] at h2; cases h2
      · rw [if_neg hj] at h1; rw [if_neg hk] at h2
        exact F.apart j k b h1 h2
  · by_cases hj : j = i
    · rw [if_pos hj] at hb; cases hb
    · rw [if_neg hj] at hb
      obtain ⟨h1, h2, h3⟩ := F.own j b hb
      refine ⟨?_, h2, h3⟩
      rw [upd_ne (fun z => hj (F.apart j i b hb (by rw [e2, z]; exact List.mem_singleton.mpr rfl)))]
      exact h1
end
end UP

namespace UP
open PySem PySem.Spec L2

/-! ### judgements -/
abbrev Pd := Hp → Hp → V → Prop
def Stb (P : Pd) : Prop := ∀ G H G' H' v, Grow G H G' H' → P G H v → P G' H' v
abbrev isD (K : PySem.W.Frag) (d : PyData) : Pd := fun G _ v => Dq K G v d
/-- data, or a list of one's own -/
def DqO (K : PySem.W.Frag) (G H : Hp) (v : V) (d : PyData) : Prop := Dq K G v d ∨ ∃ a vs ds, v = .ref a ∧ d = .list ds ∧ H a = some (.lst vs) ∧ vs.length ≤ sizeLine ∧ DqAll K G vs ds
abbrev isO (K : PySem.W.Frag) (d : PyData) : Pd := fun G H v => DqO K G H v d
theorem stb_d {K : PySem.W.Frag} {d : PyData} : Stb (isD K d) := fun _ _ _ _ _ g h => Dq.mono g.gg d h
theorem stb_o {K : PySem.W.Frag} {d : PyData} : Stb (isO K d) := fun G H G' H' v g h => by
  rcases h with h | ⟨a, vs, ds, e1, e2, e3, z, e4⟩
  · exact .inl (Dq.mono g.gg d h)
  · exact .inr ⟨a, vs, ds, e1, e2, g.hh _ _ e3, z, DqAll.mono g.gg ds e4⟩
def tP (K : PySem.W.Frag) (B : Bs) (ρ : DEnv) (P : Pd) : TE := fun σ H Q => ∃ G, En K B G H σ ρ ∧ ∀ v H' G', Grow G H G' H' → P G' H' v → Q v H'
def tT (K : PySem.W.Frag) (B : Bs) (ρ : DEnv) (b : Bool) : TT := fun σ H Q => ∃ G, En K B G H σ ρ ∧ ∀ H' G', Grow G H G' H' → Q b H'
def tAs (K : PySem.W.Frag) (B : Bs) (ρ : DEnv) (ds : List PyData) : TA := fun σ H Q => ∃ G, En K B G H σ ρ ∧ ∀ vs H' G', Grow G H G' H' → DqAll K G' vs ds → Q vs H'
/-- e is worth a value with P -/
def EVP (X : Cx) (B : Bs) (ρ : DEnv) (e : Expr) (P : Pd) : Prop := PE X e (tP X.K B ρ P)
/-- e is worth the data d -/
abbrev EV (X : Cx) (B : Bs) (ρ : DEnv) (e : Expr) (d : PyData) : Prop := EVP X B ρ e (isD X.K d)
abbrev EVo (X : Cx) (B : Bs) (ρ : DEnv) (e : Expr) (d : PyData) : Prop := EVP X B ρ e (isO X.K d)
/-- the test e answers b -/
def TV (X : Cx) (B : Bs) (ρ : DEnv) (e : Expr) (b : Bool) : Prop := PT X e (tT X.K B ρ b)
/-- arguments -/
def AV (X : Cx) (B : Bs) (ρ : DEnv) (es : List Expr) (ds : List PyData) : Prop := PA X es (tAs X.K B ρ ds)
/-- a new list -/
def tF (K : PySem.W.Frag) (B : Bs) (ρ : DEnv) (ds : List PyData) : TE := fun σ H Q => ∃ G, En K B G H σ ρ ∧ ∀ a vs H' G', Grow G H G' H' → H a = none → G' a = none → H' a = some (.lst vs) → vs.length ≤ sizeLine → DqAll K G' vs ds → Q (.ref a) H'
def EVf (X : Cx) (B : Bs) (ρ : DEnv) (e : Expr) (ds : List PyData) : Prop := PE X e (tF X.K B ρ ds)

section
variable {X : Cx} {B : Bs} {ρ : DEnv} {e a b : Expr} {pos : Pos}
theorem PE.imp {t t' : TE} (h : PE X e t) (i : ∀ σ H Q, t' σ H Q → t σ H Q) : PE X e t' := ⟨fun pins s σ H Q I q => h.run pins s σ H Q I (i σ H Q q)⟩
theorem PT.imp {t t' : TT} (h : PT X e t) (i : ∀ σ H Q, t' σ H Q → t σ H Q) : PT X e t' := ⟨fun pins s σ H Q I q => h.run pins s σ H Q I (i σ H Q q)⟩
theorem PA.imp {es : List Expr} {t t' : TA} (h : PA X es t) (i : ∀ σ H Q, t' σ H Q → t σ H Q) : PA X es t' := ⟨fun pos pins s σ H Q I q => h.run pos pins s σ H Q I (i σ H Q q)⟩
theorem EVP.weak {P P' : Pd} (h : EVP X B ρ e P) (i : ∀ G H v, P G H v → P' G H v) : EVP X B ρ e P' := PE.imp h fun _ _ _ ⟨G, en, k⟩ => ⟨G, en, fun v H' G' g p => k v H' G' g (i _ _ _ p)⟩
theorem EVP.o {d : PyData} (h : EV X B ρ e d) : EVo X B ρ e d := EVP.weak h fun _ _ _ p => .inl p
theorem EV.to {d d' : PyData} (h : EV X B ρ e d) (q : d = d') : EV X B ρ e d' := q ▸ h
theorem EVo.to {d d' : PyData} (h : EVo X B ρ e d) (q : d = d') : EVo X B ρ e d' := q ▸ h
theorem TV.to {c c' : Bool} (h : TV X B ρ e c) (q : c = c') : TV X B ρ e c' := q ▸ h
theorem EVf.to {ds ds' : List PyData} (h : EVf X B ρ e ds) (q : ds = ds') : EVf X B ρ e ds' := q ▸ h
theorem freshG {G H G' H' : Hp} {a : Addr} {vs : List V} (g : Grow G H G' H') (hn : H a = none) (gn : G' a = none) (ha : H' a = some (.lst vs)) : Grow G H (upd G' a (.lst vs)) H' := by
  refine ⟨g.gg.trans (same_upd gn), g.hh, fun b x e => ?_, fun b n e => ?_, fun t => (g.tc t).gg (same_upd gn)⟩
  · by_cases hb : b = a
    · subst hb; rw [upd_same] at e; cases e; exact ha
    · rw [upd_ne hb] at e; exact g.sub b x e
  · have : b ≠ a := fun z => n (by rw [z]; exact hn)
    rw [upd_ne this]; exact g.sep b n e
theorem EVf.ev {ds : List PyData} (h : EVf X B ρ e ds) : EV X B ρ e (.list ds) := by
  refine PE.imp h fun σ H Q ⟨G, en, k⟩ => ⟨G, en, fun a vs H' G' g hn gn ha hz hd => ?_⟩
  exact k (.ref a) H' (upd G' a (.lst vs)) (freshG g hn gn ha) (.lst upd_same hz (DqAll.mono (same_upd gn) ds hd))
theorem EVf.o {ds : List PyData} (h : EVf X B ρ e ds) : EVo X B ρ e (.list ds) := EVP.o h.ev

/-! ### names and constants -/
theorem ev_var (i : Nat) {x : Str} {d : PyData} (hρ : ρ[i]? = some (.d d) := by rfl) (hN : X.N[i]? = some x := by rfl) (hv : Vis X.env.scope x := by first | exact Or.inl rfl | exact Or.inr (Or.inl rfl) | exact Or.inr (Or.inr rfl))
    (hd : (x == ("__debug__" : Str)) = false := by decide) (hcd : (x == ("__classdict__" : Str)) = false := by decide) : EV X B ρ (.Name x pos) d := by
  refine PE.imp (pe_var (i := i) hN hv hd hcd) fun σ H Q ⟨G, en, k⟩ => ?_
  obtain ⟨v, e, q⟩ := en.get hρ
  exact ⟨v, e, k v H G (Grow.refl en.sub) q⟩
theorem ev_own (i : Nat) {x : Str} {ds : List PyData} (hρ : ρ[i]? = some (.own X.K ds) := by rfl) (hN : X.N[i]? = some x := by rfl) (hv : Vis X.env.scope x := by first | exact Or.inl rfl | exact Or.inr (Or.inl rfl) | exact Or.inr (Or.inr rfl))
    (hd : (x == ("__debug__" : Str)) = false := by decide) (hcd : (x == ("__classdict__" : Str)) = false := by decide) : EVo X B ρ (.Name x pos) (.list ds) := by
  refine PE.imp (pe_var (i := i) hN hv hd hcd) fun σ H Q ⟨G, en, k⟩ => ?_
  obtain ⟨a, vs, e, h1, hz, h2, _⟩ := en.getOwn hρ
  exact ⟨.ref a, e, k _ H G (Grow.refl en.sub) (.inr ⟨a, vs, ds, rfl, rfl, h1, hz, h2⟩)⟩
theorem ev_c {v : V} {d : PyData} (h : PE X e (tC v)) (q : ∀ G, Dq X.K G v d) : EV X B ρ e d := PE.imp h fun σ H Q ⟨G, en, k⟩ => k v H G (Grow.refl en.sub) (q G)
theorem ev_int {i j} : EV X B ρ (.Constant (.int i) j pos) (.int i) := ev_c pe_int fun _ => .int _
theorem ev_bl {b j} : EV X B ρ (.Constant (.bool b) j pos) (.bool b) := ev_c pe_bl fun _ => .bl _
theorem ev_non {j} : EV X B ρ (.Constant .none j pos) .none := ev_c pe_non fun _ => .non
theorem ev_str {x j} : EV X B ρ (.Constant (.str x) j pos) (.str x) := ev_c pe_str fun _ => .str _
theorem ev_glI {x : Str} {i : Int} {t : Tok} (hm : X.mg x = some (.int i t)) (hg : Gl X x := by rfl) (hd : (x == ("__debug__" : Str)) = false := by decide) : EV X B ρ (.Name x pos) (.int i) := ev_c (pe_glob hg hm (v := .int i) ⟨t, rfl⟩ hd) fun _ => .int _
theorem ev_glS {x : Str} {z : Str} {t : Tok} (hm : X.mg x = some (.str z t)) (hg : Gl X x := by rfl) (hd : (x == ("__debug__" : Str)) = false := by decide) : EV X B ρ (.Name x pos) (.str z) := ev_c (pe_glob hg hm (v := .str z) ⟨t, rfl⟩ hd) fun _ => .str _
/-- a built-in class as a value; an own one -/
theorem ev_ty {x : Str} {n : String} (hm : X.mg x = none) (hv : bootBuiltins x = some (.type n)) (hg : Gl X x := by rfl) (hn : x ≠ "__name__" := by decide) (hd : (x == ("__debug__" : Str)) = false := by decide) : EVP X B ρ (.Name x pos) (fun _ _ v => v = .ty n) :=
  PE.imp (pe_bltn (v := .ty n) hg hm hv rfl hn hd) fun σ H Q ⟨G, en, k⟩ => k _ H G (Grow.refl en.sub) rfl
theorem ev_cls {x : Str} {C : Addr} (hm : X.mg x = some (.ref C)) (hg : Gl X x := by rfl) (hd : (x == ("__debug__" : Str)) = false := by decide) : EVP X B ρ (.Name x pos) (fun _ _ v => v = .ref C) :=
  PE.imp (pe_glob (v := .ref C) hg hm rfl hd) fun σ H Q ⟨G, en, k⟩ => k _ H G (Grow.refl en.sub) rfl
theorem stb_eq {u : V} : Stb (fun _ _ v => v = u) := fun _ _ _ _ _ _ h => h

/-! ### operators -/
theorem ev_op {op : Operator} {r : R2} {P1 P2 P : Pd} (ho : OpR X (binaryOp op) r) (ha : EVP X B ρ a P1) (hb : EVP X B ρ b P2) (s1 : Stb P1)
    (h : ∀ x y G H Q, Same G H → P1 G H x → P2 G H y → (∀ v H' G', Grow G H G' H' → P G' H' v → Q v H') → r x y H Q) : EVP X B ρ (.BinOp a op b pos) P := by
  refine PE.imp (pe_op ho ha hb) fun σ H Q ⟨G, en, k⟩ => ⟨G, en, fun x H1 G1 g1 p1 => ⟨G1, en.grow g1, fun y H2 G2 g2 p2 => ?_⟩⟩
  exact h x y G2 H2 Q g2.sub (s1 _ _ _ _ _ g2 p1) p2 fun v H' G' g p => k v H' G' ((g1.trans g2).trans g) p
theorem ev_cmpR {op : CmpOp} {r : R2} {P1 P2 P : Pd} (ho : OpR X (compareOp op) r) (ha : EVP X B ρ a P1) (hb : EVP X B ρ b P2) (hm : behindInMarks op b = false) (s1 : Stb P1)
    (h : ∀ x y G H Q, Same G H → P1 G H x → P2 G H y → (∀ v H' G', Grow G H G' H' → P G' H' v → Q v H') → r x y H Q) : EVP X B ρ (.Compare a [op] [b] pos) P := by
  refine PE.imp (pe_cmpR ho ha hb hm) fun σ H Q ⟨G, en, k⟩ => ⟨G, en, fun x H1 G1 g1 p1 => ⟨G1, en.grow g1, fun y H2 G2 g2 p2 => ?_⟩⟩
  exact h x y G2 H2 Q g2.sub (s1 _ _ _ _ _ g2 p1) p2 fun v H' G' g p => k v H' G' ((g1.trans g2).trans g) p
theorem tv_cmpR {op : CmpOp} {r : R2} {P1 P2 : Pd} {c : Bool} (ho : OpR X (compareOp op) r) (ha : EVP X B ρ a P1) (hb : EVP X B ρ b P2) (hm : behindInMarks op b = false) (s1 : Stb P1)
    (h : ∀ x y G H Q, Same G H → P1 G H x → P2 G H y → (∀ v H' G', Grow G H G' H' → Dq X.K G' v (.bool c) → Q v H') → r x y H Q) : TV X B ρ (.Compare a [op] [b] pos) c := by
  refine PT.imp (pt_cmpR ho ha hb hm) fun σ H Q ⟨G, en, k⟩ => ⟨G, en, fun x H1 G1 g1 p1 => ⟨G1, en.grow g1, fun y H2 G2 g2 p2 => ?_⟩⟩
  refine h x y G2 H2 _ g2.sub (s1 _ _ _ _ _ g2 p1) p2 fun v H' G' g p => ?_
  cases p
  exact ⟨c, rfl, k H' G' ((g1.trans g2).trans g)⟩
section
variable {i j : Int}
theorem opII {r : R2} {f : Int → Int → V} {d : PyData} {G H : Hp} {x y : V} {Q : VK} (s : Same G H) (h1 : Dq X.K G x (.int i)) (h2 : Dq X.K G y (.int j)) (hd : ∀ G, Dq X.K G (f i j) d)
    (k : ∀ v H' G', Grow G H G' H' → Dq X.K G' v d → Q v H') : rI0 f x y H Q := by
  cases h1; cases h2
  exact ⟨i, j, rfl, rfl, k _ H G (Grow.refl s) (hd G)⟩
theorem opIIc {C : Int → Int → Prop} {f : Int → Int → V} {d : PyData} {G H : Hp} {x y : V} {Q : VK} (hc : C i j) (s : Same G H) (h1 : Dq X.K G x (.int i)) (h2 : Dq X.K G y (.int j)) (hd : ∀ G, Dq X.K G (f i j) d)
    (k : ∀ v H' G', Grow G H G' H' → Dq X.K G' v d → Q v H') : rI C f x y H Q := by
  cases h1; cases h2
  exact ⟨i, j, rfl, rfl, hc, k _ H G (Grow.refl s) (hd G)⟩
theorem ev_add (ha : EV X B ρ a (.int i)) (hb : EV X B ρ b (.int j)) : EV X B ρ (.BinOp a .Add b pos) (.int (i + j)) :=
  ev_op op_add ha hb stb_d fun x y G H Q s h1 h2 k => opII (r := rI0 fun i j => .int (i + j)) s h1 h2 (fun _ => .int _) k
theorem ev_sub (ha : EV X B ρ a (.int i)) (hb : EV X B ρ b (.int j)) : EV X B ρ (.BinOp a .Sub b pos) (.int (i - j)) :=
  ev_op op_sub ha hb stb_d fun x y G H Q s h1 h2 k => opII (r := rI0 fun i j => .int (i - j)) s h1 h2 (fun _ => .int _) k
theorem ev_mul (ha : EV X B ρ a (.int i)) (hb : EV X B ρ b (.int j)) (hc : CMul i j) : EV X B ρ (.BinOp a .Mult b pos) (.int (i * j)) :=
  ev_op op_mul ha hb stb_d fun x y G H Q s h1 h2 k => opIIc hc s h1 h2 (fun _ => .int _) k
theorem ev_mod (ha : EV X B ρ a (.int i)) (hb : EV X B ρ b (.int j)) (hc : 0 < j) : EV X B ρ (.BinOp a .Mod b pos) (.int (i % j)) :=
  ev_op op_mod ha hb stb_d fun x y G H Q s h1 h2 k => opIIc (C := fun _ j => 0 < j) hc s h1 h2 (fun _ => .int _) k
theorem ev_fdiv (ha : EV X B ρ a (.int i)) (hb : EV X B ρ b (.int j)) (hc : CDiv i j) : EV X B ρ (.BinOp a .FloorDiv b pos) (.int (i / j)) :=
  ev_op op_fdiv ha hb stb_d fun x y G H Q s h1 h2 k => opIIc hc s h1 h2 (fun _ => .int _) k
theorem ev_pow (ha : EV X B ρ a (.int i)) (hb : EV X B ρ b (.int j)) (hc : CPow i j) : EV X B ρ (.BinOp a .Pow b pos) (.int (i ^ j.toNat)) :=
  ev_op op_pow ha hb stb_d fun x y G H Q s h1 h2 k => opIIc hc s h1 h2 (fun _ => .int _) k
theorem ev_neg (ha : EV X B ρ a (.int i)) : EV X B ρ (.UnaryOp .USub a pos) (.int (-i)) := by
  refine PE.imp (pe_un un_neg ha) fun σ H Q ⟨G, en, k⟩ => ⟨G, en, fun x H1 G1 g1 p1 => ?_⟩
  cases p1
  exact ⟨i, rfl, k _ H1 G1 g1 (.int _)⟩
theorem ev_lt (ha : EV X B ρ a (.int i)) (hb : EV X B ρ b (.int j)) : EV X B ρ (.Compare a [.Lt] [b] pos) (.bool (decide (i < j))) :=
  ev_cmpR op_lt ha hb (nomark _) stb_d fun x y G H Q s h1 h2 k => opII (r := rI0 fun i j => .bl (decide (i < j))) s h1 h2 (fun _ => .bl _) k
theorem ev_le (ha : EV X B ρ a (.int i)) (hb : EV X B ρ b (.int j)) : EV X B ρ (.Compare a [.LtE] [b] pos) (.bool (decide (i ≤ j))) :=
  ev_cmpR op_le ha hb (nomark _) stb_d fun x y G H Q s h1 h2 k => opII (r := rI0 fun i j => .bl (decide (i ≤ j))) s h1 h2 (fun _ => .bl _) k
theorem ev_gt (ha : EV X B ρ a (.int i)) (hb : EV X B ρ b (.int j)) : EV X B ρ (.Compare a [.Gt] [b] pos) (.bool (decide (j < i))) :=
  ev_cmpR op_gt ha hb (nomark _) stb_d fun x y G H Q s h1 h2 k => opII (r := rI0 fun i j => .bl (decide (j < i))) s h1 h2 (fun _ => .bl _) k
theorem ev_ge (ha : EV X B ρ a (.int i)) (hb : EV X B ρ b (.int j)) : EV X B ρ (.Compare a [.GtE] [b] pos) (.bool (decide (j ≤ i))) :=
  ev_cmpR op_ge ha hb (nomark _) stb_d fun x y G H Q s h1 h2 k => opII (r := rI0 fun i j => .bl (decide (j ≤ i))) s h1 h2 (fun _ => .bl _) k
theorem tv_lt (ha : EV X B ρ a (.int i)) (hb : EV X B ρ b (.int j)) : TV X B ρ (.Compare a [.Lt] [b] pos) (decide (i < j)) :=
  tv_cmpR op_lt ha hb (nomark _) stb_d fun x y G H Q s h1 h2 k => opII (r := rI0 fun i j => .bl (decide (i < j))) s h1 h2 (fun _ => .bl _) k
theorem tv_le (ha : EV X B ρ a (.int i)) (hb : EV X B ρ b (.int j)) : TV X B ρ (.Compare a [.LtE] [b] pos) (decide (i ≤ j)) :=
  tv_cmpR op_le ha hb (nomark _) stb_d fun x y G H Q s h1 h2 k => opII (r := rI0 fun i j => .bl (decide (i ≤ j))) s h1 h2 (fun _ => .bl _) k
theorem tv_gt (ha : EV X B ρ a (.int i)) (hb : EV X B ρ b (.int j)) : TV X B ρ (.Compare a [.Gt] [b] pos) (decide (j < i)) :=
  tv_cmpR op_gt ha hb (nomark _) stb_d fun x y G H Q s h1 h2 k => opII (r := rI0 fun i j => .bl (decide (j < i))) s h1 h2 (fun _ => .bl _) k
theorem tv_ge (ha : EV X B ρ a (.int i)) (hb : EV X B ρ b (.int j)) : TV X B ρ (.Compare a [.GtE] [b] pos) (decide (j ≤ i)) :=
  tv_cmpR op_ge ha hb (nomark _) stb_d fun x y G H Q s h1 h2 k => opII (r := rI0 fun i j => .bl (decide (j ≤ i))) s h1 h2 (fun _ => .bl _) k
end
/-! == of data at any depth -/
def okD (d : PyData) : Bool := SeqAt.shaped d && plainD d
theorem DqO.dp {K : PySem.W.Frag} {G H : Hp} {v : V} {d : PyData} (s : Same G H) (p : plainD d = true) (h : DqO K G H v d) : Dp K H v d := by
  rcases h with h | ⟨x, vs, ds, e1, e2, e3, z, e4⟩
  · exact Dq.dp d p (Dq.mono s d h)
  · subst e1 e2
    exact .lst (SqL.of e3) (DqAll.dp ds p (DqAll.mono s ds e4))
theorem eqD_ok {K : PySem.W.Frag} {d d' : PyData} {c : Bool} (h1 : okD d = true) (h2 : okD d' = true) (hc : PyData.eqv d d' = c) {x y : V} {G H : Hp} {Q : VK} (s : Same G H) (p1 : DqO K G H x d) (p2 : DqO K G H y d') (k : ∀ v H' G', Grow G H G' H' → Dq K G' v (.bool c) → Q v H') : rEqD K x y H Q := by
  unfold okD at h1 h2
  rw [Bool.and_eq_true] at h1 h2
  exact ⟨d, d', DqO.dp s h1.2 p1, DqO.dp s h2.2 p2, h1.1, h2.1, k _ H G (Grow.refl s) (by rw [hc]; exact .bl _)⟩
theorem neD_ok {K : PySem.W.Frag} {d d' : PyData} {c : Bool} (h1 : okD d = true) (h2 : okD d' = true) (hc : PyData.eqv d d' = c) {x y : V} {G H : Hp} {Q : VK} (s : Same G H) (p1 : DqO K G H x d) (p2 : DqO K G H y d') (k : ∀ v H' G', Grow G H G' H' → Dq K G' v (.bool (!c)) → Q v H') : rNeD K x y H Q := by
  unfold okD at h1 h2
  rw [Bool.and_eq_true] at h1 h2
  exact ⟨d, d', DqO.dp s h1.2 p1, DqO.dp s h2.2 p2, h1.1, h2.1, k _ H G (Grow.refl s) (by rw [hc]; exact .bl _)⟩
section
variable {d d' : PyData} {c : Bool}
theorem ev_eq (hu : X.A.units + 65 < cLine) (ha : EVo X B ρ a d) (hb : EVo X B ρ b d') (h1 : okD d = true) (h2 : okD d' = true) (hc : PyData.eqv d d' = c) : EV X B ρ (.Compare a [.Eq] [b] pos) (.bool c) :=
  ev_cmpR (op_eqD (by omega)) ha hb (nomark _) stb_o fun x y G H Q s p1 p2 k => eqD_ok h1 h2 hc s p1 p2 k
theorem ev_ne (hu : X.A.units + 65 < cLine) (ha : EVo X B ρ a d) (hb : EVo X B ρ b d') (h1 : okD d = true) (h2 : okD d' = true) (hc : PyData.eqv d d' = c) : EV X B ρ (.Compare a [.NotEq] [b] pos) (.bool (!c)) :=
  ev_cmpR (op_neD (by omega)) ha hb (nomark _) stb_o fun x y G H Q s p1 p2 k => neD_ok h1 h2 hc s p1 p2 k
theorem tv_eq (hu : X.A.units + 65 < cLine) (ha : EVo X B ρ a d) (hb : EVo X B ρ b d') (h1 : okD d = true) (h2 : okD d' = true) (hc : PyData.eqv d d' = c) : TV X B ρ (.Compare a [.Eq] [b] pos) c :=
  tv_cmpR (op_eqD (by omega)) ha hb (nomark _) stb_o fun x y G H Q s p1 p2 k => eqD_ok h1 h2 hc s p1 p2 k
theorem tv_ne (hu : X.A.units + 65 < cLine) (ha : EVo X B ρ a d) (hb : EVo X B ρ b d') (h1 : okD d = true) (h2 : okD d' = true) (hc : PyData.eqv d d' = c) : TV X B ρ (.Compare a [.NotEq] [b] pos) (!c) :=
  tv_cmpR (op_neD (by omega)) ha hb (nomark _) stb_o fun x y G H Q s p1 p2 k => neD_ok h1 h2 hc s p1 p2 k
end
/-! in, not in: a list of data of any depth; a tuple (or list) of flat things -/
section
variable {d : PyData} {ds : List PyData} {c : Bool}
theorem ev_in (hu : X.A.units + 65 < cLine) (ha : EVo X B ρ a d) (hb : EVo X B ρ b (.list ds)) (h1 : okD d = true) (h2 : okD (.list ds) = true) (hc : (ds.any fun z => PyData.eqv z d) = c) (hm : behindInMarks .In b = false := by rfl) : EV X B ρ (.Compare a [.In] [b] pos) (.bool c) :=
  ev_cmpR (op_inD hu) ha hb hm stb_o fun x y G H Q s p1 p2 k => by
    unfold okD at h1 h2
    rw [Bool.and_eq_true] at h1 h2
    exact ⟨d, ds, DqO.dp s h1.2 p1, DqO.dp s h2.2 p2, h1.1, h2.1, k _ H G (Grow.refl s) (by rw [hc]; exact .bl _)⟩
theorem ev_notin (hu : X.A.units + 65 < cLine) (ha : EVo X B ρ a d) (hb : EVo X B ρ b (.list ds)) (h1 : okD d = true) (h2 : okD (.list ds) = true) (hc : (ds.any fun z => PyData.eqv z d) = c) (hm : behindInMarks .NotIn b = false := by rfl) : EV X B ρ (.Compare a [.NotIn] [b] pos) (.bool (!c)) :=
  ev_cmpR (op_notInD hu) ha hb hm stb_o fun x y G H Q s p1 p2 k => by
    unfold okD at h1 h2
    rw [Bool.and_eq_true] at h1 h2
    exact ⟨d, ds, DqO.dp s h1.2 p1, DqO.dp s h2.2 p2, h1.1, h2.1, k _ H G (Grow.refl s) (by rw [hc]; exact .bl _)⟩
theorem tv_in (hu : X.A.units + 65 < cLine) (ha : EVo X B ρ a d) (hb : EVo X B ρ b (.list ds)) (h1 : okD d = true) (h2 : okD (.list ds) = true) (hc : (ds.any fun z => PyData.eqv z d) = c) (hm : behindInMarks .In b = false := by rfl) : TV X B ρ (.Compare a [.In] [b] pos) c :=
  tv_cmpR (op_inD hu) ha hb hm stb_o fun x y G H Q s p1 p2 k => by
    unfold okD at h1 h2
    rw [Bool.and_eq_true] at h1 h2
    exact ⟨d, ds, DqO.dp s h1.2 p1, DqO.dp s h2.2 p2, h1.1, h2.1, k _ H G (Grow.refl s) (by rw [hc]; exact .bl _)⟩
theorem tv_notin (hu : X.A.units + 65 < cLine) (ha : EVo X B ρ a d) (hb : EVo X B ρ b (.list ds)) (h1 : okD d = true) (h2 : okD (.list ds) = true) (hc : (ds.any fun z => PyData.eqv z d) = c) (hm : behindInMarks .NotIn b = false := by rfl) : TV X B ρ (.Compare a [.NotIn] [b] pos) (!c) :=
  tv_cmpR (op_notInD hu) ha hb hm stb_o fun x y G H Q s p1 p2 k => by
    unfold okD at h1 h2
    rw [Bool.and_eq_true] at h1 h2
    exact ⟨d, ds, DqO.dp s h1.2 p1, DqO.dp s h2.2 p2, h1.1, h2.1, k _ H G (Grow.refl s) (by rw [hc]; exact .bl _)⟩
end
/-- ints in a tuple or list of ints -/
theorem inV_ints (n : Int) (ns : List Int) : inV (.int n) (ns.map V.int) = decide (n ∈ ns) := by
  unfold inV
  induction ns with
  | nil => simp
  | cons m ns ih =>
    rw [List.map_cons, List.any_cons, ih]
    by_cases h : n = m
    · subst h; simp [eqV]
    · have h' : ¬ m = n := fun z => h z.symm
      simp [eqV, h, h']
theorem flat_ints (ns : List Int) : (ns.map V.int).all flatV = true := by
  induction ns with
  | nil => rfl
  | cons m ns ih => rw [List.map_cons, List.all_cons, ih]; rfl
section
variable {n : Int} {ns : List Int}
/-- a tuple or a list -/
def isSq (K : PySem.W.Frag) (ds : List PyData) : Pd := fun G H v => DqO K G H v (.list ds) ∨ Dq K G v (.tuple ds)
theorem stb_sq {K : PySem.W.Frag} {ds : List PyData} : Stb (isSq K ds) := fun G H G' H' v g h => h.elim (fun h => .inl (stb_o _ _ _ _ _ g h)) fun h => .inr (Dq.mono g.gg _ h)
theorem EVP.sqT {ds : List PyData} (h : EV X B ρ e (.tuple ds)) : EVP X B ρ e (isSq X.K ds) := EVP.weak h fun _ _ _ p => .inr p
theorem EVP.sqL {ds : List PyData} (h : EVo X B ρ e (.list ds)) : EVP X B ρ e (isSq X.K ds) := EVP.weak h fun _ _ _ p => .inl p
theorem isSq.get {K : PySem.W.Frag} {G H : Hp} {v : V} {ds : List PyData} (s : Same G H) (h : isSq K ds G H v) : ∃ p vs, v = .ref p ∧ (SqL K H p vs ∨ SqT K H p vs) ∧ vs.length ≤ sizeLine ∧ DqAll K G vs ds := by
  rcases h with (h | ⟨a, vs, ds', e1, e2, e3, z, e4⟩) | h
  · cases h with | lst h1 h2 h3 => exact ⟨_, _, rfl, .inl (SqL.of (s _ _ h1)), h2, h3⟩
  · cases e2; exact ⟨a, vs, e1, .inl (SqL.of e3), z, e4⟩
  · cases h with | tup h1 h2 h3 => exact ⟨_, _, rfl, .inr (SqT.of (s _ _ h1)), h2, h3⟩
theorem inI_ok {K : PySem.W.Frag} {x y : V} {G H : Hp} {Q : VK} {neg : Bool} (s : Same G H) (p1 : Dq K G x (.int n)) (p2 : isSq K (ns.map PyData.int) G H y) (k : ∀ v H' G', Grow G H G' H' → Dq K G' v (.bool (if neg then !decide (n ∈ ns) else decide (n ∈ ns))) → Q v H') : rIn K neg x y H Q := by
  cases p1
  obtain ⟨p, vs, rfl, hs, z, hv⟩ := p2.get s
  have e := DqAll.ints hv
  subst e
  exact ⟨p, _, rfl, hs, rfl, flat_ints ns, k _ H G (Grow.refl s) (by rw [inV_ints]; exact .bl _)⟩
theorem ev_inI (ha : EV X B ρ a (.int n)) (hb : EVP X B ρ b (isSq X.K (ns.map PyData.int))) (hm : behindInMarks .In b = false := by rfl) : EV X B ρ (.Compare a [.In] [b] pos) (.bool (decide (n ∈ ns))) :=
  ev_cmpR op_in_seq ha hb hm stb_d fun x y G H Q s p1 p2 k => inI_ok (neg := false) s p1 p2 k
theorem ev_notinI (ha : EV X B ρ a (.int n)) (hb : EVP X B ρ b (isSq X.K (ns.map PyData.int))) (hm : behindInMarks .NotIn b = false := by rfl) : EV X B ρ (.Compare a [.NotIn] [b] pos) (.bool (!decide (n ∈ ns))) :=
  ev_cmpR op_notIn_seq ha hb hm stb_d fun x y G H Q s p1 p2 k => inI_ok (neg := true) s p1 p2 k
theorem tv_inI (ha : EV X B ρ a (.int n)) (hb : EVP X B ρ b (isSq X.K (ns.map PyData.int))) (hm : behindInMarks .In b = false := by rfl) : TV X B ρ (.Compare a [.In] [b] pos) (decide (n ∈ ns)) :=
  tv_cmpR op_in_seq ha hb hm stb_d fun x y G H Q s p1 p2 k => inI_ok (neg := false) s p1 p2 k
theorem tv_notinI (ha : EV X B ρ a (.int n)) (hb : EVP X B ρ b (isSq X.K (ns.map PyData.int))) (hm : behindInMarks .NotIn b = false := by rfl) : TV X B ρ (.Compare a [.NotIn] [b] pos) (!decide (n ∈ ns)) :=
  tv_cmpR op_notIn_seq ha hb hm stb_d fun x y G H Q s p1 p2 k => inI_ok (neg := true) s p1 p2 k
end
/-! is None -/
theorem Dq.non_iff {K : PySem.W.Frag} {G : Hp} {v : V} {d : PyData} (h : Dq K G v d) : decide (v = .non) = (match d with | .none => true | _ => false) := by
  cases h <;> rfl
def isNone : PyData → Bool
  | .none => true
  | _ => false
theorem Dq.non_iff' {K : PySem.W.Frag} {G : Hp} {v : V} {d : PyData} (h : Dq K G v d) : decide (v = .non) = isNone d := by
  cases h <;> rfl
section
variable {d : PyData} {j : Nat} {pos' : Pos}
theorem ev_isN (ha : EV X B ρ a d) : EV X B ρ (.Compare a [.Is] [.Constant .none j pos'] pos) (.bool (isNone d)) := by
  refine PE.imp (pe_cmp (pc_isN ha)) fun σ H Q ⟨G, en, k⟩ => ⟨G, en, fun x H1 G1 g1 p1 => ?_⟩
  dsimp only; rw [p1.non_iff']; exact k _ H1 G1 g1 (.bl _)
theorem ev_notN (ha : EV X B ρ a d) : EV X B ρ (.Compare a [.IsNot] [.Constant .none j pos'] pos) (.bool (!isNone d)) := by
  refine PE.imp (pe_cmp (pc_notN ha)) fun σ H Q ⟨G, en, k⟩ => ⟨G, en, fun x H1 G1 g1 p1 => ?_⟩
  dsimp only; rw [p1.non_iff']; exact k _ H1 G1 g1 (.bl _)
theorem tv_isN (ha : EV X B ρ a d) : TV X B ρ (.Compare a [.Is] [.Constant .none j pos'] pos) (isNone d) := by
  refine PT.imp (pt_cmp (pc_isN ha)) fun σ H Q ⟨G, en, k⟩ => ⟨G, en, fun x H1 G1 g1 p1 => ⟨isNone d, by rw [p1.non_iff'], k H1 G1 g1⟩⟩
theorem tv_notN (ha : EV X B ρ a d) : TV X B ρ (.Compare a [.IsNot] [.Constant .none j pos'] pos) (!isNone d) := by
  refine PT.imp (pt_cmp (pc_notN ha)) fun σ H Q ⟨G, en, k⟩ => ⟨G, en, fun x H1 G1 g1 p1 => ⟨!isNone d, by rw [p1.non_iff'], k H1 G1 g1⟩⟩
end
/-! truth, and, or, not, if -/
theorem tv_val {c : Bool} (h : EV X B ρ e (.bool c)) (he : ∀ whole, isTrue e X.env whole = (do let v ← whole; standAt e.pos; holding [v] (truthy v)) := by intro _; rfl) : TV X B ρ e c := by
  refine PT.imp (pt_val h he) fun σ H Q ⟨G, en, k⟩ => ⟨G, en, fun x H1 G1 g1 p1 => ?_⟩
  cases p1
  exact ⟨c, rfl, k H1 G1 g1⟩
theorem sq_truth {K : PySem.W.Frag} {G H : Hp} {v : V} {ds : List PyData} (s : Same G H) (h : isSq K ds G H v) : TruV K v H (!ds.isEmpty) := by
  obtain ⟨p, vs, rfl, hs, z, hv⟩ := h.get s
  have e : vs.isEmpty = ds.isEmpty := by
    have := hv.length
    cases vs <;> cases ds <;> first | rfl | cases this
  rcases hs with hs | hs
  · exact .inl ⟨vs, hs, by rw [e]⟩
  · exact .inr (.inl ⟨vs, hs, by rw [e]⟩)
theorem tv_sq {ds : List PyData} (h : EVP X B ρ e (isSq X.K ds)) (he : ∀ whole, isTrue e X.env whole = (do let v ← whole; standAt e.pos; holding [v] (truthy v)) := by intro _; rfl) : TV X B ρ e (!ds.isEmpty) := by
  refine PT.imp (pt_truth h he) fun σ H Q ⟨G, en, k⟩ => ⟨G, en, fun x H1 G1 g1 p1 => ?_⟩
  exact ⟨_, sq_truth g1.sub p1, k H1 G1 g1⟩
theorem tv_not {c : Bool} (h : TV X B ρ a c) : TV X B ρ (.UnaryOp .Not a pos) (!c) := PT.imp (pt_not h) fun σ H Q ⟨G, en, k⟩ => ⟨G, en, fun H1 G1 g1 => k H1 G1 g1⟩
/-- a chain of and, or as a test -/
def WV (X : Cx) (B : Bs) (ρ : DEnv) (e : Expr) (b : Bool) : Prop := PW X e (tT X.K B ρ b)
theorem PW.imp {t t' : TT} (h : PW X e t) (i : ∀ σ H Q, t' σ H Q → t σ H Q) : PW X e t' := ⟨fun wh pins s σ H Q I q => h.run wh pins s σ H Q I (i σ H Q q)⟩
theorem WV.tv {c : Bool} (h : WV X B ρ e c) : TV X B ρ e c := PW.pt h
theorem wv_and1 {c : Bool} (h : TV X B ρ a c) : WV X B ρ (.BoolOp .And [a] pos) c := pw_and1 h
theorem wv_or1 {c : Bool} (h : TV X B ρ a c) : WV X B ρ (.BoolOp .Or [a] pos) c := pw_or1 h
theorem never_w {t : TT} (h : ∀ σ H Q, ¬ t σ H Q) : PW X e t := ⟨fun _ _ _ σ H Q _ q => (h σ H Q q).elim⟩
theorem wv_and {c c' : Bool} {rest : List Expr} (h : TV X B ρ a c) (h' : c = true → WV X B ρ (.BoolOp .And (b :: rest) pos) c') : WV X B ρ (.BoolOp .And (a :: b :: rest) pos) (c && c') := by
  cases c with
  | true => exact PW.imp (pw_and h (h' rfl)) fun σ H Q ⟨G, en, k⟩ => ⟨G, en, fun H1 G1 g1 => by
      exact iteT (⟨G1, en.grow g1, fun H2 G2 g2 => k H2 G2 (g1.trans g2)⟩)⟩
  | false => exact PW.imp (pw_and h (never_w (t := fun _ _ _ => False) fun _ _ _ z => z)) fun σ H Q ⟨G, en, k⟩ => ⟨G, en, fun H1 G1 g1 => by
      exact iteF (k H1 G1 g1)⟩
theorem wv_or {c c' : Bool} {rest : List Expr} (h : TV X B ρ a c) (h' : c = false → WV X B ρ (.BoolOp .Or (b :: rest) pos) c') : WV X B ρ (.BoolOp .Or (a :: b :: rest) pos) (c || c') := by
  cases c with
  | false => exact PW.imp (pw_or h (h' rfl)) fun σ H Q ⟨G, en, k⟩ => ⟨G, en, fun H1 G1 g1 => by
      exact iteF (⟨G1, en.grow g1, fun H2 G2 g2 => k H2 G2 (g1.trans g2)⟩)⟩
  | true => exact PW.imp (pw_or h (never_w (t := fun _ _ _ => False) fun _ _ _ z => z)) fun σ H Q ⟨G, en, k⟩ => ⟨G, en, fun H1 G1 g1 => by
      exact iteT (k H1 G1 g1)⟩
/-- as values, all bools -/
theorem never_e {t : TE} (h : ∀ σ H Q, ¬ t σ H Q) : PE X e t := ⟨fun _ _ σ H Q _ q => (h σ H Q q).elim⟩
theorem ev_one {op} {d : PyData} (h : EV X B ρ a d) : EV X B ρ (.BoolOp op [a] pos) d := pe_one h
theorem ev_and {c c' : Bool} {rest : List Expr} (h : EV X B ρ a (.bool c)) (h' : c = true → EV X B ρ (.BoolOp .And (b :: rest) pos) (.bool c')) : EV X B ρ (.BoolOp .And (a :: b :: rest) pos) (.bool (c && c')) := by
  cases c with
  | true => exact PE.imp (pe_and h (h' rfl)) fun σ H Q ⟨G, en, k⟩ => ⟨G, en, fun x H1 G1 g1 p1 => by
      cases p1
      refine ⟨true, rfl, ?_⟩
      exact iteT (⟨G1, en.grow g1, fun v H2 G2 g2 => k v H2 G2 (g1.trans g2)⟩)⟩
  | false => exact PE.imp (pe_and h (never_e (t := fun _ _ _ => False) fun _ _ _ z => z)) fun σ H Q ⟨G, en, k⟩ => ⟨G, en, fun x H1 G1 g1 p1 => by
      cases p1
      refine ⟨false, rfl, ?_⟩
      exact iteF (k _ H1 G1 g1 (.bl _))⟩
theorem ev_or {c c' : Bool} {rest : List Expr} (h : EV X B ρ a (.bool c)) (h' : c = false → EV X B ρ (.BoolOp .Or (b :: rest) pos) (.bool c')) : EV X B ρ (.BoolOp .Or (a :: b :: rest) pos) (.bool (c || c')) := by
  cases c with
  | false => exact PE.imp (pe_or h (h' rfl)) fun σ H Q ⟨G, en, k⟩ => ⟨G, en, fun x H1 G1 g1 p1 => by
      cases p1
      refine ⟨false, rfl, ?_⟩
      exact iteF (⟨G1, en.grow g1, fun v H2 G2 g2 => k v H2 G2 (g1.trans g2)⟩)⟩
  | true => exact PE.imp (pe_or h (never_e (t := fun _ _ _ => False) fun _ _ _ z => z)) fun σ H Q ⟨G, en, k⟩ => ⟨G, en, fun x H1 G1 g1 p1 => by
      cases p1
      refine ⟨true, rfl, ?_⟩
      exact iteT (k _ H1 G1 g1 (.bl _))⟩
theorem ev_not {c : Bool} (h : EV X B ρ a (.bool c)) : EV X B ρ (.UnaryOp .Not a pos) (.bool (!c)) := PE.imp (pe_not h) fun σ H Q ⟨G, en, k⟩ => ⟨G, en, fun x H1 G1 g1 p1 => by
  cases p1
  exact ⟨c, rfl, k _ H1 G1 g1 (.bl _)⟩⟩
theorem ev_notS {ds : List PyData} (h : EVP X B ρ a (isSq X.K ds)) : EV X B ρ (.UnaryOp .Not a pos) (.bool ds.isEmpty) := PE.imp (pe_notT h) fun σ H Q ⟨G, en, k⟩ => ⟨G, en, fun x H1 G1 g1 p1 => by
  refine ⟨_, sq_truth g1.sub p1, ?_⟩
  rw [Bool.not_not]
  exact k _ H1 G1 g1 (.bl _)⟩
theorem ev_if {c : Bool} {t : Expr} {P : Pd} (h : TV X B ρ t c) (ha : c = true → EVP X B ρ a P) (hb : c = false → EVP X B ρ b P) : EVP X B ρ (.IfExp t a b pos) P := by
  cases c with
  | true => exact PE.imp (pe_ifExp h (ha rfl) (never_e (t := fun _ _ _ => False) fun _ _ _ z => z)) fun σ H Q ⟨G, en, k⟩ => ⟨G, en, fun H1 G1 g1 => by
      exact iteT (⟨G1, en.grow g1, fun v H2 G2 g2 => k v H2 G2 (g1.trans g2)⟩)⟩
  | false => exact PE.imp (pe_ifExp h (never_e (t := fun _ _ _ => False) fun _ _ _ z => z) (hb rfl)) fun σ H Q ⟨G, en, k⟩ => ⟨G, en, fun H1 G1 g1 => by
      exact iteF (⟨G1, en.grow g1, fun v H2 G2 g2 => k v H2 G2 (g1.trans g2)⟩)⟩
/-- a <= b <= c of ints -/
theorem ev_chain {c : Expr} {i j l : Int} (ha : EV X B ρ a (.int i)) (hb : EV X B ρ b (.int j)) (hc : EV X B ρ c (.int l)) (hm : lastMarks [.LtE, .LtE] [b, c] = false := by with_unfolding_all rfl) :
    EV X B ρ (.Compare a [.LtE, .LtE] [b, c] pos) (.bool (decide (i ≤ j) && decide (j ≤ l))) := by
  refine PE.imp (pe_chain op_le op_le ha hb hc hm) fun σ H Q ⟨G, en, k⟩ => ⟨G, en, fun x H1 G1 g1 p1 => ⟨G1, en.grow g1, fun y H2 G2 g2 p2 => ?_⟩⟩
  cases p1; cases p2
  refine ⟨i, j, rfl, rfl, _, rfl, ?_⟩
  by_cases h : i ≤ j
  · rw [decide_eq_true h, Bool.true_and] at k
    rw [decide_eq_true h]
    refine iteT ⟨G2, en.grow (g1.trans g2), fun z H3 G3 g3 p3 => ?_⟩
    cases p3
    exact ⟨j, l, rfl, rfl, k _ H3 G3 ((g1.trans g2).trans g3) (.bl _)⟩
  · rw [decide_eq_false h, Bool.false_and] at k
    rw [decide_eq_false h]
    exact iteF (k _ H2 G2 (g1.trans g2) (.bl _))
theorem tv_chain {c : Expr} {i j l : Int} (ha : EV X B ρ a (.int i)) (hb : EV X B ρ b (.int j)) (hc : EV X B ρ c (.int l)) (hm : lastMarks [.LtE, .LtE] [b, c] = false := by with_unfolding_all rfl) :
    TV X B ρ (.Compare a [.LtE, .LtE] [b, c] pos) (decide (i ≤ j) && decide (j ≤ l)) := by
  refine PT.imp (pt_chain op_le op_le ha hb hc hm) fun σ H Q ⟨G, en, k⟩ => ⟨G, en, fun x H1 G1 g1 p1 => ⟨G1, en.grow g1, fun y H2 G2 g2 p2 => ?_⟩⟩
  cases p1; cases p2
  refine ⟨i, j, rfl, rfl, _, rfl, ?_⟩
  by_cases h : i ≤ j
  · rw [decide_eq_true h, Bool.true_and] at k
    rw [decide_eq_true h]
    refine iteT ⟨G2, en.grow (g1.trans g2), fun z H3 G3 g3 p3 => ?_⟩
    cases p3
    exact ⟨j, l, rfl, rfl, _, rfl, k H3 G3 ((g1.trans g2).trans g3)⟩
  · rw [decide_eq_false h, Bool.false_and] at k
    rw [decide_eq_false h]
    exact iteF ⟨_, rfl, k H2 G2 (g1.trans g2)⟩
end
end UP

namespace UP
open PySem PySem.Spec L2
section
variable {X : Cx} {B : Bs} {ρ : DEnv} {e a b : Expr} {es : List Expr} {pos p : Pos}
/-! ### arguments and displays -/
theorem av_nil : AV X B ρ [] [] := PA.imp pa_nil fun σ H Q ⟨G, en, k⟩ => k [] H G (Grow.refl en.sub) .nil
theorem av_cons {d : PyData} {ds : List PyData} (ha : EV X B ρ e d) (hr : AV X B ρ es ds) (hs : starEach (e :: es) X.env = (false, eval e X.env) :: starEach es X.env := by rfl) : AV X B ρ (e :: es) (d :: ds) := by
  refine PA.imp (pa_cons ha hr hs) fun σ H Q ⟨G, en, k⟩ => ⟨G, en, fun v H1 G1 g1 p1 => ⟨G1, en.grow g1, fun vs H2 G2 g2 p2 => ?_⟩⟩
  exact k _ H2 G2 (g1.trans g2) (.cons (Dq.mono g2.gg d p1) p2)
theorem av_one {d : PyData} (ha : EV X B ρ e d) (hs : starEach [e] X.env = [(false, eval e X.env)] := by rfl) : AV X B ρ [e] [d] := av_cons ha av_nil hs
theorem ev_tup {ds : List PyData} {k : Nat} (h : AV X B ρ es ds) (hz : ds.length ≤ 1000 := by first | decide | simp) : EV X B ρ (.Tuple es k pos) (.tuple ds) := by
  refine PE.imp (pe_tup h) fun σ H Q ⟨G, en, k⟩ => ⟨G, en, fun vs H1 G1 g1 p1 => ?_⟩
  have hl : vs.length ≤ sizeLine := by rw [p1.length]; exact Nat.le_of_lt (small1000 hz)
  refine ⟨hl, fun q hq => k _ _ _ (g1.trans (Grow.new g1.sub (.tup vs) hq)) ?_⟩
  exact .tup upd_same hl (DqAll.mono (same_upd (g1.sub.free hq)) ds p1)
theorem ev_lst {ds : List PyData} (h : AV X B ρ es ds) (hz : ds.length ≤ 1000 := by first | decide | simp) : EVf X B ρ (.List es pos) ds := by
  refine PE.imp (pe_lst h) fun σ H Q ⟨G, en, k⟩ => ⟨G, en, fun vs H1 G1 g1 p1 => ?_⟩
  have hl : vs.length ≤ sizeLine := by rw [p1.length]; exact Nat.le_of_lt (small1000 hz)
  refine ⟨hl, fun q hq => k q vs _ G1 (g1.trans (Grow.own g1.sub (.lst vs) hq)) (g1.hh.free hq) (g1.sub.free hq) upd_same hl p1⟩
/-! ### + of lists, of tuples; * -/
theorem DqO.list {K : PySem.W.Frag} {G H : Hp} {v : V} {ds : List PyData} (s : Same G H) (h : DqO K G H v (.list ds)) : ∃ q vs, v = .ref q ∧ H q = some (.lst vs) ∧ vs.length ≤ sizeLine ∧ DqAll K G vs ds := by
  rcases h with h | ⟨a, vs, ds', e1, e2, e3, z, e4⟩
  · cases h with | lst h1 h2 h3 => exact ⟨_, _, rfl, s _ _ h1, h2, h3⟩
  · cases e2; exact ⟨a, vs, e1, e3, z, e4⟩
theorem ev_cat {ds es' : List PyData} (ha : EVo X B ρ a (.list ds)) (hb : EVo X B ρ b (.list es')) (hz : ds.length + es'.length ≤ sizeLine) : EVf X B ρ (.BinOp a .Add b pos) (ds ++ es') := by
  refine PE.imp (pe_op op_cat ha hb) fun σ H Q ⟨G, en, k⟩ => ⟨G, en, fun x H1 G1 g1 p1 => ⟨G1, en.grow g1, fun y H2 G2 g2 p2 => ?_⟩⟩
  obtain ⟨q1, vs, rfl, h1, z1, d1⟩ := DqO.list g2.sub (stb_o _ _ _ _ _ g2 p1)
  obtain ⟨q2, ws, rfl, h2, z2, d2⟩ := DqO.list g2.sub p2
  have g := g1.trans g2
  have hl : vs.length + ws.length ≤ sizeLine := by rw [d1.length, d2.length]; exact hz
  exact ⟨q1, q2, vs, ws, rfl, rfl, h1, h2, hl, fun q hq => k q _ _ G2 (g.trans (Grow.own g2.sub _ hq)) (g.hh.free hq) (g2.sub.free hq) upd_same (by rw [List.length_append]; exact hl) (DqAll.append d1 d2)⟩
theorem Dq.tuple {K : PySem.W.Frag} {G H : Hp} {v : V} {ds : List PyData} (s : Same G H) (h : Dq K G v (.tuple ds)) : ∃ q vs, v = .ref q ∧ SqT K H q vs ∧ G q = some (.tup vs) ∧ vs.length ≤ sizeLine ∧ DqAll K G vs ds := by
  cases h with | tup h1 h2 h3 => exact ⟨_, _, rfl, SqT.of (s _ _ h1), h1, h2, h3⟩
theorem ev_catT {ds es' : List PyData} (ha : EV X B ρ a (.tuple ds)) (hb : EV X B ρ b (.tuple es')) (hz : ds.length + es'.length ≤ sizeLine) : EV X B ρ (.BinOp a .Add b pos) (.tuple (ds ++ es')) :=
  ev_op op_catA ha hb stb_d fun x y G H Q s h1 h2 k => by
    obtain ⟨q1, vs, rfl, t1, gt1, z1, d1⟩ := Dq.tuple s h1
    obtain ⟨q2, ws, rfl, t2, gt2, z2, d2⟩ := Dq.tuple s h2
    have hl : vs.length + ws.length ≤ sizeLine := by rw [d1.length, d2.length]; exact hz
    refine ⟨q1, q2, vs, ws, rfl, rfl, t1, t2, hl, fun e => ?_, fun _ e => ?_, fun _ _ q hq => ?_⟩
    · subst e; cases d1
      exact k _ H G (Grow.refl s) h2
    · subst e; cases d2
      rw [List.append_nil] at k
      exact k _ H G (Grow.refl s) h1
    · exact k _ _ _ (Grow.new s _ hq) (.tup upd_same (by rw [List.length_append]; exact hl) (DqAll.mono (same_upd (s.free hq)) _ (DqAll.append d1 d2)))
/-! ### subscripts -/
theorem DqAll.at {K : PySem.W.Frag} {G : Hp} {vs : List V} {ds : List PyData} {i : Int} {d : PyData} (h : DqAll K G vs ds) (hd : atI ds i = some d) : ∃ v, atI vs i = some v ∧ Dq K G v d := by
  unfold atI at hd ⊢
  rw [h.length]
  cases e : ixN ds.length i with
  | none => rw [e] at hd; cases hd
  | some j =>
    rw [e] at hd
    exact DqAll.get' h hd
theorem ev_ix {ds : List PyData} {i : Int} {d : PyData} (ha : EVP X B ρ a (isSq X.K ds)) (hb : EV X B ρ b (.int i)) (hd : atI ds i = some d) (hs : PlainIx b := by exact fun _ _ => rfl) : EV X B ρ (.Subscript a b pos) d := by
  refine PE.imp (pe_ix ix_seq ha hb hs) fun σ H Q ⟨G, en, k⟩ => ⟨G, en, fun x H1 G1 g1 p1 => ⟨G1, en.grow g1, fun y H2 G2 g2 p2 => ?_⟩⟩
  cases p2
  obtain ⟨q, vs, rfl, hq, z, dv⟩ := (stb_sq _ _ _ _ _ g2 p1).get g2.sub
  obtain ⟨v, hv, dd⟩ := DqAll.at dv hd
  have kk := k v H2 G2 (g1.trans g2) dd
  rcases hq with hq | hq
  · exact .inl ⟨q, vs, i, v, rfl, rfl, hq, hv, kk⟩
  · exact .inr (.inl ⟨q, vs, i, v, rfl, rfl, hq, hv, kk⟩)
theorem ev_ixL {ds : List PyData} {i : Int} {d : PyData} (ha : EVo X B ρ a (.list ds)) (hb : EV X B ρ b (.int i)) (hd : atI ds i = some d) (hs : PlainIx b := by exact fun _ _ => rfl) : EV X B ρ (.Subscript a b pos) d := ev_ix (EVP.sqL ha) hb hd hs
theorem ev_ixT {ds : List PyData} {i : Int} {d : PyData} (ha : EV X B ρ a (.tuple ds)) (hb : EV X B ρ b (.int i)) (hd : atI ds i = some d) (hs : PlainIx b := by exact fun _ _ => rfl) : EV X B ρ (.Subscript a b pos) d := ev_ix (EVP.sqT ha) hb hd hs
/-- by typed lists and natural places -/
theorem atI_map {α : Type} {xs : List α} {f : α → PyData} {i : Int} {x : α} (h0 : 0 ≤ i) (h : xs[i.toNat]? = some x) : atI (xs.map f) i = some (f x) := by
  have e : i = (i.toNat : Int) := by omega
  rw [e]
  exact atI_nat (by rw [List.getElem?_map]; rw [h]; rfl)
/-- the script's item, length -/
theorem ev_ixS {ns : List Int} {i n : Int} (ha : EV X B ρ a (scriptD ns)) (hb : EV X B ρ b (.int i)) (hd : atI ns i = some n) (hs : PlainIx b := by exact fun _ _ => rfl) : EV X B ρ (.Subscript a b pos) (.int n) := by
  refine PE.imp (pe_ix ix_list ha hb hs) fun σ H Q ⟨G, en, k⟩ => ⟨G, en, fun x H1 G1 g1 p1 => ⟨G1, en.grow g1, fun y H2 G2 g2 p2 => ?_⟩⟩
  cases p2
  cases (Dq.mono g2.gg _ p1) with
  | scr h1 he =>
    rename_i q ms
    have e2 : ms = ns := by
      have := congrArg (List.map fun z : PyData × PyData => match z.1 with | .int n => n | _ => 0) he
      simp only [List.map_map] at this
      have f : ((fun z : PyData × PyData => match z.1 with | .int n => n | _ => 0) ∘ fun n : Int => (PyData.int n, PyData.none)) = id := rfl
      rw [f, List.map_id, List.map_id] at this
      exact this.symm
    subst e2
    refine ⟨q, _, i, .int n, rfl, rfl, SqL.same g2.sub h1, ?_, k _ H2 G2 (g1.trans g2) (.int n)⟩
    unfold atI at hd ⊢
    rw [List.length_map]
    cases e : ixN ms.length i with
    | none => rw [e] at hd; cases hd
    | some j =>
      rw [e] at hd
      have hd : ms[j]? = some n := hd
      show (ms.map V.int)[j]? = some (.int n)
      rw [List.getElem?_map, hd]; rfl
/-! slices -/
def cutD (ds : List PyData) (lo hi : Option Int) : List PyData := (ds.drop (HT.sIx ds.length 0 lo)).take (HT.sIx ds.length ds.length hi - HT.sIx ds.length 0 lo)
theorem DqAll.cut {K : PySem.W.Frag} {G : Hp} {vs : List V} {ds : List PyData} (h : DqAll K G vs ds) (lo hi : Option Int) : DqAll K G (cutV vs lo hi) (cutD ds lo hi) := by
  unfold cutV cutD
  rw [h.length]
  exact (h.drop _).take _
theorem cutV_len (vs : List V) (lo hi : Option Int) : (cutV vs lo hi).length ≤ vs.length := by
  unfold cutV
  rw [List.length_take, List.length_drop]
  omega
/-- a part of a slice -/
def OV (X : Cx) (B : Bs) (ρ : DEnv) (o : Option Expr) (i : Option Int) : Prop := PO X o (fun σ H Q => ∃ G, En X.K B G H σ ρ ∧ ∀ H' G', Grow G H G' H' → Q i H')
theorem PO.imp {o : Option Expr} {t t' : TO} (h : PO X o t) (i : ∀ σ H Q, t' σ H Q → t σ H Q) : PO X o t' := ⟨fun pins s σ H Q I q => h.run pins s σ H Q I (i σ H Q q)⟩
theorem ov_none : OV X B ρ none none := PO.imp po_none fun σ H Q ⟨G, en, k⟩ => k H G (Grow.refl en.sub)
theorem ov_some {i : Int} (h : EV X B ρ e (.int i)) : OV X B ρ (some e) (some i) := PO.imp (po_some h) fun σ H Q ⟨G, en, k⟩ => ⟨G, en, fun v H1 G1 g1 p1 => by
  cases p1
  exact ⟨i, rfl, k H1 G1 g1⟩⟩
variable {lo hi : Option Expr} {p2 : Pos}
theorem ev_slL {ds : List PyData} {i j : Option Int} (ha : EVo X B ρ a (.list ds)) (hl : OV X B ρ lo i) (hh : OV X B ρ hi j) : EVf X B ρ (.Subscript a (.Slice lo hi none p2) pos) (cutD ds i j) := by
  refine PE.imp (pe_slice sl_list ha hl hh) fun σ H Q ⟨G, en, k⟩ => ⟨G, en, fun x H1 G1 g1 p1 => ⟨G1, en.grow g1, fun H2 G2 g2 => ⟨G2, en.grow (g1.trans g2), fun H3 G3 g3 => ?_⟩⟩⟩
  have g := (g1.trans g2).trans g3
  obtain ⟨q, vs, rfl, h1, z, dv⟩ := DqO.list g3.sub (stb_o _ _ _ _ _ (g2.trans g3) p1)
  exact ⟨q, vs, rfl, SqL.of h1, fun r hr => k r _ _ G3 (g.trans (Grow.own g3.sub _ hr)) (g.hh.free hr) (g3.sub.free hr) upd_same (Nat.le_trans (cutV_len _ _ _) z) (dv.cut i j)⟩
theorem ev_slT {ds : List PyData} {i j : Option Int} (ha : EV X B ρ a (.tuple ds)) (hl : OV X B ρ lo i) (hh : OV X B ρ hi j) : EV X B ρ (.Subscript a (.Slice lo hi none p2) pos) (.tuple (cutD ds i j)) := by
  refine PE.imp (pe_slice sl_tupA ha hl hh) fun σ H Q ⟨G, en, k⟩ => ⟨G, en, fun x H1 G1 g1 p1 => ⟨G1, en.grow g1, fun H2 G2 g2 => ⟨G2, en.grow (g1.trans g2), fun H3 G3 g3 => ?_⟩⟩⟩
  have g := (g1.trans g2).trans g3
  have pd := Dq.mono (g2.trans g3).gg _ p1
  obtain ⟨q, vs, rfl, h1, gq, z, dv⟩ := Dq.tuple g3.sub pd
  refine ⟨q, vs, rfl, h1, fun ⟨e1, e2⟩ => ?_, fun _ r hr => ?_⟩
  · have e : cutD ds i j = ds := by
      unfold cutD
      rw [← dv.length, e1, e2, List.drop_zero, Nat.sub_zero, dv.length]
      exact List.take_length
    rw [e] at k
    exact k _ H3 G3 g pd
  · exact k _ _ _ (g.trans (Grow.new g3.sub _ hr)) (.tup upd_same (Nat.le_trans (cutV_len _ _ _) z) (DqAll.mono (same_upd (g3.sub.free hr)) _ (dv.cut i j)))
/-! ### built-ins by their name -/
section
variable {x : Str} {n T : String}
theorem ev_callB {r : List V → Hp → VK → Prop} {P : Pd} {ds : List PyData} (hc : CallR X (.builtin n) r) (hm : X.mg x = none) (hv : bootBuiltins x = some (.builtin n)) (ha : AV X B ρ (e :: es) ds)
    (h : ∀ vs G H Q, Same G H → DqAll X.K G vs ds → (∀ v H' G', Grow G H G' H' → P G' H' v → Q v H') → r vs H Q)
    (hg : Gl X x := by rfl) (hn : x ≠ "__name__" := by decide) (hdb : (x == ("__debug__" : Str)) = false := by decide)
    (he : starEach (e :: es) X.env = (false, eval e X.env) :: starEach es X.env := by rfl) (hpl : (backTo pos (starEach es X.env)).any (·.1) = false := by rfl) : EVP X B ρ (.Call (.Name x p) (e :: es) [] pos) P := by
  refine PE.imp (pe_callB hc hg hm hv ha hn hdb he hpl) fun σ H Q ⟨G, en, k⟩ => ⟨G, en, fun vs H1 G1 g1 p1 => ?_⟩
  exact h vs G1 H1 Q g1.sub p1 fun v H' G' g pp => k v H' G' (g1.trans g) pp
/-- one argument that may be of one's own -/
theorem ev_callB1 {r : List V → Hp → VK → Prop} {P0 P : Pd} (hc : CallR X (.builtin n) r) (hm : X.mg x = none) (hv : bootBuiltins x = some (.builtin n)) (ha : EVP X B ρ e P0)
    (h : ∀ v G H Q, Same G H → P0 G H v → (∀ v H' G', Grow G H G' H' → P G' H' v → Q v H') → r [v] H Q)
    (hg : Gl X x := by rfl) (hn : x ≠ "__name__" := by decide) (hdb : (x == ("__debug__" : Str)) = false := by decide)
    (he : starEach [e] X.env = [(false, eval e X.env)] := by rfl) : EVP X B ρ (.Call (.Name x p) [e] [] pos) P := by
  refine PE.imp (pe_callB hc hg hm hv (pa_cons ha pa_nil he) hn hdb he rfl) fun σ H Q ⟨G, en, k⟩ => ⟨G, en, fun v H1 G1 g1 p1 => ?_⟩
  exact h v G1 H1 Q g1.sub p1 fun v H' G' g pp => k v H' G' (g1.trans g) pp
theorem ev_callT1 {r : List V → Hp → VK → Prop} {P0 P : Pd} (hc : CallR X (.type T) r) (hm : X.mg x = none) (hv : bootBuiltins x = some (.type T)) (ha : EVP X B ρ e P0)
    (h : ∀ v G H Q, Same G H → P0 G H v → (∀ v H' G', Grow G H G' H' → P G' H' v → Q v H') → r [v] H Q)
    (hg : Gl X x := by rfl) (hn : x ≠ "__name__" := by decide) (hdb : (x == ("__debug__" : Str)) = false := by decide)
    (he : starEach [e] X.env = [(false, eval e X.env)] := by rfl) : EVP X B ρ (.Call (.Name x p) [e] [] pos) P := by
  refine PE.imp (pe_callTy hc hg hm hv (pa_cons ha pa_nil he) hn hdb he rfl) fun σ H Q ⟨G, en, k⟩ => ⟨G, en, fun v H1 G1 g1 p1 => ?_⟩
  exact h v G1 H1 Q g1.sub p1 fun v H' G' g pp => k v H' G' (g1.trans g) pp
end
theorem ev_len {ds : List PyData} (hm : X.mg "len" = none) (ha : EVP X B ρ e (isSq X.K ds)) (hg : Gl X "len" := by rfl) (he : starEach [e] X.env = [(false, eval e X.env)] := by rfl) : EV X B ρ (.Call (.Name "len" p) [e] [] pos) (.int ds.length) :=
  ev_callB1 call_len_seq hm PySem.boot_len ha (fun v G H Q s pv k => by
    obtain ⟨q, vs, rfl, hq, z, dv⟩ := pv.get s
    exact ⟨q, vs, rfl, hq, k _ H G (Grow.refl s) (by rw [dv.length]; exact .int _)⟩) hg (by decide) (by decide) he
theorem ev_lenS {ns : List Int} (hm : X.mg "len" = none) (ha : EV X B ρ e (scriptD ns)) (hg : Gl X "len" := by rfl) (he : starEach [e] X.env = [(false, eval e X.env)] := by rfl) : EV X B ρ (.Call (.Name "len" p) [e] [] pos) (.int ns.length) :=
  ev_callB1 call_len_seq hm PySem.boot_len ha (fun v G H Q s pv k => by
    cases pv with
    | scr h1 h2 =>
      rename_i q ms
      have e2 : ms.length = ns.length := by
        have := congrArg List.length h2
        rw [List.length_map, List.length_map] at this
        exact this.symm
      exact ⟨q, _, rfl, .inl (SqL.same s h1), k _ H G (Grow.refl s) (by rw [List.length_map, e2]; exact .int _)⟩) hg (by decide) (by decide) he
theorem ev_lenT {z : Str} (hm : X.mg "len" = none) (ha : EV X B ρ e (.str z)) (hz : z.length ≤ 100000) (hg : Gl X "len" := by rfl) (he : starEach [e] X.env = [(false, eval e X.env)] := by rfl) : EV X B ρ (.Call (.Name "len" p) [e] [] pos) (.int z.length) :=
  ev_callB1 call_len_str hm PySem.boot_len ha (fun v G H Q s pv k => by
    cases pv
    exact ⟨z, rfl, Nat.le_trans hz (by decide), k _ H G (Grow.refl s) (.int _)⟩) hg (by decide) (by decide) he
/-- tuple(x), list(x) -/
theorem ev_tupleL {ds : List PyData} (hm : X.mg "tuple" = none) (hv : bootBuiltins "tuple" = some (.type "tuple")) (ha : EVP X B ρ e (isSq X.K ds)) (hg : Gl X "tuple" := by rfl) (he : starEach [e] X.env = [(false, eval e X.env)] := by rfl) : EV X B ρ (.Call (.Name "tuple" p) [e] [] pos) (.tuple ds) :=
  ev_callT1 call_tuple_of hm hv ha (fun v G H Q s pv k => by
    have pv' := pv
    obtain ⟨q, vs, rfl, hq, z, dv⟩ := pv.get s
    rcases pv' with pl | pt
    · obtain ⟨q', vs', e1, h1, z1, d1⟩ := DqO.list s pl
      cases e1
      exact ⟨q, vs', rfl, .inl ⟨SqL.of h1, fun r hr => k _ _ _ (Grow.new s _ hr) (.tup upd_same z1 (DqAll.mono (same_upd (s.free hr)) _ d1))⟩⟩
    · obtain ⟨q', vs', e1, h1, gq, z1, d1⟩ := Dq.tuple s pt
      cases e1
      exact ⟨q, vs', rfl, .inr ⟨h1, k _ H G (Grow.refl s) pt⟩⟩) hg (by decide) (by decide) he
theorem ev_listS {ds : List PyData} (hm : X.mg "list" = none) (hv : bootBuiltins "list" = some (.type "list")) (ha : EVP X B ρ e (isSq X.K ds)) (hg : Gl X "list" := by rfl) (he : starEach [e] X.env = [(false, eval e X.env)] := by rfl) : EVf X B ρ (.Call (.Name "list" p) [e] [] pos) ds := by
  refine PE.imp (pe_callTy call_list_of hg hm hv (pa_cons ha pa_nil he) (by decide) (by decide) he rfl) fun σ H Q ⟨G, en, k⟩ => ⟨G, en, fun v H1 G1 g1 p1 => ?_⟩
  obtain ⟨q, vs, rfl, hq, z, dv⟩ := p1.get g1.sub
  exact ⟨q, vs, rfl, hq, fun r hr => k r vs _ G1 (g1.trans (Grow.own g1.sub _ hr)) (g1.hh.free hr) (g1.sub.free hr) upd_same z dv⟩
/-- sum of ints -/
theorem ev_sumL {ns : List Int} (hcalm : X.calm = true) (hm : X.mg "sum" = none) (hv : bootBuiltins "sum" = some (.builtin "sum")) (ha : EVo X B ρ e (.list (ns.map PyData.int))) (hg : Gl X "sum" := by rfl) (he : starEach [e] X.env = [(false, eval e X.env)] := by rfl) : EV X B ρ (.Call (.Name "sum" p) [e] [] pos) (.int ns.sum) :=
  ev_callB1 (cr_sum hcalm) hm hv ha (fun v G H Q s pv k => by
    obtain ⟨q, vs, rfl, h1, z1, d1⟩ := DqO.list s pv
    have e := DqAll.ints d1
    subst e
    exact ⟨q, ns, rfl, SqL.of h1, k _ H G (Grow.refl s) (.int _)⟩) hg (by decide) (by decide) he
theorem ev_max2 {i j : Int} {f : Expr} (hcalm : X.calm = true) (hm : X.mg "max" = none) (hv : bootBuiltins "max" = some (.builtin "max")) (ha : EV X B ρ e (.int i)) (hb : EV X B ρ f (.int j)) (hg : Gl X "max" := by rfl) (he : starEach [e, f] X.env = (false, eval e X.env) :: starEach [f] X.env := by rfl) (he2 : starEach [f] X.env = [(false, eval f X.env)] := by rfl) (hpl : (backTo pos (starEach [f] X.env)).any (·.1) = false := by rfl) :
    EV X B ρ (.Call (.Name "max" p) [e, f] [] pos) (.int (if j > i then j else i)) :=
  ev_callB (call_max2 hcalm) hm hv (av_cons ha (av_one hb he2) he) (fun vs G H Q s d k => by
    cases d with | cons d1 d => cases d with | cons d2 d =>
    cases d; cases d1; cases d2
    exact ⟨i, j, rfl, k _ H G (Grow.refl s) (.int _)⟩) hg (by decide) (by decide) he hpl
theorem ev_min2 {i j : Int} {f : Expr} (hcalm : X.calm = true) (hm : X.mg "min" = none) (hv : bootBuiltins "min" = some (.builtin "min")) (ha : EV X B ρ e (.int i)) (hb : EV X B ρ f (.int j)) (hg : Gl X "min" := by rfl) (he : starEach [e, f] X.env = (false, eval e X.env) :: starEach [f] X.env := by rfl) (he2 : starEach [f] X.env = [(false, eval f X.env)] := by rfl) (hpl : (backTo pos (starEach [f] X.env)).any (·.1) = false := by rfl) :
    EV X B ρ (.Call (.Name "min" p) [e, f] [] pos) (.int (if j < i then j else i)) :=
  ev_callB (call_min2 hcalm) hm hv (av_cons ha (av_one hb he2) he) (fun vs G H Q s d k => by
    cases d with | cons d1 d => cases d with | cons d2 d =>
    cases d; cases d1; cases d2
    exact ⟨i, j, rfl, k _ H G (Grow.refl s) (.int _)⟩) hg (by decide) (by decide) he hpl
/-- isinstance(x, T), T a built-in class -/
def tyD : PyData → String
  | .none => "NoneType"
  | .bool _ => "bool"
  | .int _ => "int"
  | .str _ => "str"
  | .list _ => "list"
  | .tuple _ => "tuple"
  | .dict _ => "list"
theorem Dq.ty {K : PySem.W.Frag} {G H : Hp} {v : V} {d : PyData} (s : Same G H) (h : Dq K G v d) : TyX K H v (.type (tyD d)) := by
  cases h with
  | non => exact .base .non
  | bl b => exact .base (.bl b)
  | int i => exact .base (.int i)
  | str x => exact .base (.str x)
  | lst h1 h2 h3 => exact .base (.lst (s _ _ h1))
  | tup h1 h2 h3 => exact .base (.tup (s _ _ h1))
  | scr h1 h2 =>
    rcases SqL.same s h1 with (h | ⟨o, h⟩) | ⟨o, its, n, hk, hc, _⟩
    · exact .base (.lst h)
    · exact .base (.frz h)
    · exact .kList hk hc
def isiD (d : PyData) (T : String) : Bool := (kitB (tyD d) T).getD false
theorem ev_isi {d : PyData} {T : String} {f : Expr} (hm : X.mg "isinstance" = none) (hv : bootBuiltins "isinstance" = some (.builtin "isinstance")) (ha : EV X B ρ e d) (hf : EVP X B ρ f (fun _ _ v => v = .ty T)) (hk : kitB (tyD d) T = some (isiD d T)) (hg : Gl X "isinstance" := by rfl)
    (he : starEach [e, f] X.env = (false, eval e X.env) :: starEach [f] X.env := by rfl) (he2 : starEach [f] X.env = [(false, eval f X.env)] := by rfl) (hpl : (backTo pos (starEach [f] X.env)).any (·.1) = false := by rfl) :
    EV X B ρ (.Call (.Name "isinstance" p) [e, f] [] pos) (.bool (isiD d T)) := by
  refine PE.imp (pe_callB call_isi hg hm hv (pa_cons ha (pa_cons hf pa_nil he2) he) (by decide) (by decide) he hpl) fun σ H Q ⟨G, en, k⟩ => ⟨G, en, fun x H1 G1 g1 p1 => ⟨G1, en.grow g1, fun y H2 G2 g2 p2 => ?_⟩⟩
  subst p2
  exact ⟨x, .ty T, _, _, isiD d T, rfl, .ty T, Dq.ty g2.sub (Dq.mono g2.gg _ p1), kit_ty hk, k _ H2 G2 (g1.trans g2) (.bl _)⟩
end
end UP

namespace UP
open PySem PySem.Spec L2
/-! ### what is walked -/
structure Its (K : PySem.W.Frag) (J : It) (ds : List PyData) (G0 : Hp) : Prop where
  go : ∀ i G H, Same G0 G → Same G H → i < ds.length → J.go i H
  yld : ∀ i G H x H' d, Same G0 G → Same G H → ds[i]? = some d → J.yld i H x H' → ∃ G', Grow G H G' H' ∧ Dq K G' x d
  stop : ∀ i G H, Same G0 G → Same G H → ds.length = i → J.stop i H
def tI (K : PySem.W.Frag) (B : Bs) (ρ : DEnv) (ds : List PyData) : TI := fun σ H R => ∃ G, En K B G H σ ρ ∧ ∀ J H' G', Grow G H G' H' → Its K J ds G' → R J H'
/-- the walk of iter gives ds -/
def IV (X : Cx) (B : Bs) (ρ : DEnv) (tg iter : Expr) (ds : List PyData) : Prop := PI X tg iter (tI X.K B ρ ds)
section
variable {X : Cx} {B : Bs} {ρ : DEnv} {e a b tg : Expr} {es : List Expr} {pos p : Pos}
theorem PI.imp {t t' : TI} (h : PI X tg e t) (i : ∀ σ H R, t' σ H R → t σ H R) : PI X tg e t' := ⟨fun pins s σ H R I q => h.run pins s σ H R I (i σ H R q)⟩
theorem SqL.inj {K : PySem.W.Frag} {H : Hp} {a : Addr} {xs ys : List V} (h : H a = some (.lst xs)) (P : V → Prop) {i : Nat} {x : V} (q : ∀ ys, SqL K H a ys → ys[i]? = some x) : xs[i]? = some x := q xs (SqL.of h)
theorem iv_list {ds : List PyData} (h : EV X B ρ e (.list ds)) : IV X B ρ tg e ds := by
  refine PI.imp (pi_list h) fun σ H R ⟨G, en, k⟩ => ⟨G, en, fun v H1 G1 g1 p1 => ?_⟩
  cases p1 with
  | lst h1 h2 h3 =>
    rename_i q vs
    refine ⟨q, rfl, ⟨vs, SqL.of (g1.sub _ _ h1)⟩, k _ H1 G1 g1 ⟨fun i G' H' s1 s2 hi => ?_, fun i G' H' x H'' d s1 s2 hd hy => ?_, fun i G' H' s1 s2 hi => ?_⟩⟩
    · have : i < vs.length := by rw [h3.length]; exact hi
      exact ⟨vs, vs[i], SqL.of (s2 _ _ (s1 _ _ h1)), List.getElem?_eq_getElem this⟩
    · obtain ⟨e1, e2⟩ := hy
      subst e1
      obtain ⟨v, hv, dd⟩ := DqAll.get' h3 hd
      have := e2 vs (SqL.of (s2 _ _ (s1 _ _ h1)))
      rw [hv] at this
      cases this
      exact ⟨G', Grow.refl s2, Dq.mono s1 _ dd⟩
    · exact ⟨vs, SqL.of (s2 _ _ (s1 _ _ h1)), by rw [h3.length]; exact Nat.le_of_eq hi⟩
theorem iv_tup {ds : List PyData} (h : EV X B ρ e (.tuple ds)) : IV X B ρ tg e ds := by
  refine PI.imp (pi_tup h) fun σ H R ⟨G, en, k⟩ => ⟨G, en, fun v H1 G1 g1 p1 => ?_⟩
  cases p1 with
  | tup h1 h2 h3 =>
    rename_i q vs
    refine ⟨q, rfl, ⟨vs, SqT.of (g1.sub _ _ h1)⟩, k _ H1 G1 g1 ⟨fun i G' H' s1 s2 hi => ?_, fun i G' H' x H'' d s1 s2 hd hy => ?_, fun i G' H' s1 s2 hi => ?_⟩⟩
    · have : i < vs.length := by rw [h3.length]; exact hi
      exact ⟨vs, vs[i], SqT.of (s2 _ _ (s1 _ _ h1)), List.getElem?_eq_getElem this⟩
    · obtain ⟨e1, e2⟩ := hy
      subst e1
      obtain ⟨v, hv, dd⟩ := DqAll.get' h3 hd
      have := e2 vs (SqT.of (s2 _ _ (s1 _ _ h1)))
      rw [hv] at this
      cases this
      exact ⟨G', Grow.refl s2, Dq.mono s1 _ dd⟩
    · exact ⟨vs, SqT.of (s2 _ _ (s1 _ _ h1)), by rw [h3.length]; exact Nat.le_of_eq hi⟩
def rangeD (lo : Int) (n : Nat) : List PyData := (List.range n).map fun i => PyData.int (lo + (i : Nat))
theorem its_range (K : PySem.W.Frag) (lo : Int) (n : Nat) (G0 : Hp) : Its K (Itr lo n) (rangeD lo n) G0 := by
  have hl : (rangeD lo n).length = n := by unfold rangeD; simp
  refine ⟨fun i G H _ _ hi => by rw [hl] at hi; exact hi, fun i G H x H' d _ s2 hd hy => ?_, fun i G H _ _ hi => by rw [hl] at hi; exact Nat.le_of_eq hi⟩
  obtain ⟨e1, e2⟩ := hy
  subst e1 e2
  have hi : i < n := by rw [← hl]; exact (List.getElem?_eq_some_iff.mp hd).1
  have : d = .int (lo + (i : Nat)) := by
    unfold rangeD at hd
    rw [List.getElem?_map, List.getElem?_range hi] at hd
    exact (Option.some.inj hd).symm
  subst this
  exact ⟨G, Grow.refl s2, .int _⟩
theorem iv_range1 {n : Nat} (hm : X.mg "range" = none) (h : EV X B ρ e (.int (n : Int))) (hn : n ≤ 1000000) (hg : Gl X "range" := by rfl) (hs : starEach [e] X.env = [(false, eval e X.env)] := by rfl) : IV X B ρ tg (.Call (.Name "range" p) [e] [] pos) (rangeD 0 n) := by
  refine PI.imp (pi_range1 hg hm (av_one h hs) hs) fun σ H R ⟨G, en, k⟩ => ⟨G, en, fun vs H1 G1 g1 p1 => ?_⟩
  cases p1 with
  | cons q1 q2 =>
    cases q1; cases q2
    exact ⟨(n : Int), rfl, by omega, by omega, k _ H1 G1 g1 (its_range _ _ _ _)⟩
theorem iv_range2 {i j : Int} {n : Nat} (hm : X.mg "range" = none) (ha : EV X B ρ a (.int i)) (hb : EV X B ρ b (.int j)) (hi : -1000000 ≤ i ∧ i ≤ 1000000) (hj : -1000000 ≤ j ∧ j ≤ 1000000) (hn : (j - i).toNat = n) (hg : Gl X "range" := by rfl)
    (hs : starEach [a, b] X.env = [(false, eval a X.env), (false, eval b X.env)] := by rfl) (hs2 : starEach [b] X.env = [(false, eval b X.env)] := by rfl) : IV X B ρ tg (.Call (.Name "range" p) [a, b] [] pos) (rangeD i n) := by
  refine PI.imp (pi_range2 hg hm (av_cons ha (av_one hb hs2) (by rw [hs, hs2])) hs hs2) fun σ H R ⟨G, en, k⟩ => ⟨G, en, fun vs H1 G1 g1 p1 => ?_⟩
  cases p1 with
  | cons q1 q2 =>
    cases q2 with
    | cons q3 q4 =>
      cases q1; cases q3; cases q4
      exact ⟨i, j, rfl, by omega, k _ H1 G1 g1 (by rw [hn]; exact its_range _ _ _ _)⟩
def pairD (d d' : PyData) : PyData := .tuple [d, d']
def zipD (ds es : List PyData) : List PyData := (ds.zip es).map fun p => pairD p.1 p.2
theorem dq_pair {K : PySem.W.Frag} {G : Hp} {T : Addr} {x y : V} {d d' : PyData} (h : G T = some (.tup [x, y])) (h1 : Dq K G x d) (h2 : Dq K G y d') : Dq K G (.ref T) (pairD d d') := .tup h (by show 2 ≤ sizeLine; decide) (.cons h1 (.cons h2 .nil))
section
variable {elts : List Expr} {kk : Nat} {tpos : Pos}
theorem zip_get {ds es : List PyData} {i : Nat} {d : PyData} (h : (zipD ds es)[i]? = some d) : ∃ d1 d2, ds[i]? = some d1 ∧ es[i]? = some d2 ∧ d = pairD d1 d2 := by
  unfold zipD at h
  rw [List.getElem?_map] at h
  cases e : (ds.zip es)[i]? with
  | none => rw [e] at h; cases h
  | some q =>
    rw [e] at h
    rw [List.getElem?_zip_eq_some] at e
    exact ⟨q.1, q.2, e.1, e.2, (Option.some.inj h).symm⟩
theorem zip_len (ds es : List PyData) : (zipD ds es).length = min ds.length es.length := by unfold zipD; simp
theorem iv_zipT {ds es' : List PyData} (hm : X.mg "zip" = none) (ha : EV X B ρ a (.tuple ds)) (hb : EV X B ρ b (.tuple es')) (hg : Gl X "zip" := by rfl)
    (hs : starEach [a, b] X.env = (false, eval a X.env) :: starEach [b] X.env := by rfl) (hs2 : starEach [b] X.env = [(false, eval b X.env)] := by rfl) (hpl : (backTo pos (starEach [b] X.env)).any (·.1) = false := by rfl) :
    IV X B ρ (.Tuple elts kk tpos) (.Call (.Name "zip" p) [a, b] [] pos) (zipD ds es') := by
  refine PI.imp (RZ.pi_zipA hg hm (av_cons ha (av_one hb hs2) hs) hs hpl) fun σ H R ⟨G, en, k⟩ => ⟨G, en, fun vs H1 G1 g1 p1 => ?_⟩
  cases p1 with
  | cons q1 q2 =>
    cases q2 with
    | cons q3 q4 =>
      cases q4
      obtain ⟨r1, vs, rfl, t1, gt1, z1, d1⟩ := Dq.tuple g1.sub q1
      obtain ⟨r2, ws, rfl, t2, gt2, z2, d2⟩ := Dq.tuple g1.sub q3
      refine ⟨r1, r2, vs, ws, rfl, .inr ⟨t1, t2, k _ H1 G1 g1 ⟨fun i G' H' s1 s2 hi => ?_, fun i G' H' x H'' d s1 s2 hd hy => ?_, fun i G' H' s1 s2 hi => ?_⟩⟩⟩
      · rw [zip_len] at hi
        have h1 : i < vs.length := by rw [d1.length]; omega
        have h2 : i < ws.length := by rw [d2.length]; omega
        exact ⟨vs, ws, vs[i], ws[i], SqT.of (s2 _ _ (s1 _ _ gt1)), SqT.of (s2 _ _ (s1 _ _ gt2)), List.getElem?_eq_getElem h1, List.getElem?_eq_getElem h2⟩
      · obtain ⟨T, x1, x2, rfl, hT, rfl, f1, f2⟩ := hy
        obtain ⟨e1, e2, h1, h2, rfl⟩ := zip_get hd
        obtain ⟨v1, hv1, dd1⟩ := DqAll.get' d1 h1
        obtain ⟨v2, hv2, dd2⟩ := DqAll.get' d2 h2
        have c1 := f1 vs (SqT.of (s2 _ _ (s1 _ _ gt1)))
        have c2 := f2 ws (SqT.of (s2 _ _ (s1 _ _ gt2)))
        rw [hv1] at c1; rw [hv2] at c2
        have c1 := Option.some.inj c1
        have c2 := Option.some.inj c2
        subst c1 c2
        have sg : Same G1 (upd G' T (.tup [v1, v2])) := s1.trans (same_upd (s2.free hT))
        exact ⟨upd G' T (.tup [v1, v2]), Grow.new s2 _ hT, dq_pair upd_same (Dq.mono sg _ dd1) (Dq.mono sg _ dd2)⟩
      · rw [zip_len] at hi
        exact ⟨vs, ws, SqT.of (s2 _ _ (s1 _ _ gt1)), SqT.of (s2 _ _ (s1 _ _ gt2)), by rw [d1.length, d2.length]; omega⟩
theorem iv_zipL {ds es' : List PyData} (hm : X.mg "zip" = none) (ha : EV X B ρ a (.list ds)) (hb : EV X B ρ b (.list es')) (hg : Gl X "zip" := by rfl)
    (hs : starEach [a, b] X.env = (false, eval a X.env) :: starEach [b] X.env := by rfl) (hs2 : starEach [b] X.env = [(false, eval b X.env)] := by rfl) (hpl : (backTo pos (starEach [b] X.env)).any (·.1) = false := by rfl) :
    IV X B ρ (.Tuple elts kk tpos) (.Call (.Name "zip" p) [a, b] [] pos) (zipD ds es') := by
  refine PI.imp (RZ.pi_zipA hg hm (av_cons ha (av_one hb hs2) hs) hs hpl) fun σ H R ⟨G, en, k⟩ => ⟨G, en, fun vs H1 G1 g1 p1 => ?_⟩
  cases p1 with
  | cons q1 q2 =>
    cases q2 with
    | cons q3 q4 =>
      cases q4
      cases q1 with
      | lst gt1 z1 d1 =>
      cases q3 with
      | lst gt2 z2 d2 =>
      rename_i r1 vs r2 ws
      refine ⟨r1, r2, vs, ws, rfl, .inl ⟨SqL.of (g1.sub _ _ gt1), SqL.of (g1.sub _ _ gt2), k _ H1 G1 g1 ⟨fun i G' H' s1 s2 hi => ?_, fun i G' H' x H'' d s1 s2 hd hy => ?_, fun i G' H' s1 s2 hi => ?_⟩⟩⟩
      · rw [zip_len] at hi
        have h1 : i < vs.length := by rw [d1.length]; omega
        have h2 : i < ws.length := by rw [d2.length]; omega
        exact ⟨vs, ws, vs[i], ws[i], SqL.of (s2 _ _ (s1 _ _ gt1)), SqL.of (s2 _ _ (s1 _ _ gt2)), List.getElem?_eq_getElem h1, List.getElem?_eq_getElem h2⟩
      · obtain ⟨T, x1, x2, rfl, hT, rfl, f1, f2⟩ := hy
        obtain ⟨e1, e2, h1, h2, rfl⟩ := zip_get hd
        obtain ⟨v1, hv1, dd1⟩ := DqAll.get' d1 h1
        obtain ⟨v2, hv2, dd2⟩ := DqAll.get' d2 h2
        have c1 := f1 vs (SqL.of (s2 _ _ (s1 _ _ gt1)))
        have c2 := f2 ws (SqL.of (s2 _ _ (s1 _ _ gt2)))
        rw [hv1] at c1; rw [hv2] at c2
        have c1 := Option.some.inj c1
        have c2 := Option.some.inj c2
        subst c1 c2
        have sg : Same G1 (upd G' T (.tup [v1, v2])) := s1.trans (same_upd (s2.free hT))
        exact ⟨upd G' T (.tup [v1, v2]), Grow.new s2 _ hT, dq_pair upd_same (Dq.mono sg _ dd1) (Dq.mono sg _ dd2)⟩
      · rw [zip_len] at hi
        exact ⟨vs, ws, SqL.of (s2 _ _ (s1 _ _ gt1)), SqL.of (s2 _ _ (s1 _ _ gt2)), by rw [d1.length, d2.length]; omega⟩
def enumD (ds : List PyData) : List PyData := (List.range ds.length).map fun i => pairD (.int (i : Nat)) (ds.getD i .none)
theorem enum_len (ds : List PyData) : (enumD ds).length = ds.length := by unfold enumD; simp
theorem enum_get {ds : List PyData} {i : Nat} {d : PyData} (h : (enumD ds)[i]? = some d) : ∃ d1, ds[i]? = some d1 ∧ d = pairD (.int (i : Nat)) d1 := by
  have hi : i < ds.length := by rw [← enum_len]; exact (List.getElem?_eq_some_iff.mp h).1
  unfold enumD at h
  rw [List.getElem?_map, List.getElem?_range hi] at h
  refine ⟨ds[i], List.getElem?_eq_getElem hi, ?_⟩
  rw [← Option.some.inj h]
  simp [hi]
theorem iv_enumL {ds : List PyData} (hm : X.mg "enumerate" = none) (ha : EV X B ρ e (.list ds)) (hg : Gl X "enumerate" := by rfl) (hs : starEach [e] X.env = [(false, eval e X.env)] := by rfl) : IV X B ρ (.Tuple elts kk tpos) (.Call (.Name "enumerate" p) [e] [] pos) (enumD ds) := by
  refine PI.imp (pi_enum hg hm (av_one ha hs) hs) fun σ H R ⟨G, en, k⟩ => ⟨G, en, fun vs H1 G1 g1 p1 => ?_⟩
  cases p1 with
  | cons q1 q2 =>
    cases q2
    cases q1 with
    | lst gt1 z1 d1 =>
    rename_i r1 vs
    refine ⟨r1, vs, rfl, SqL.of (g1.sub _ _ gt1), k _ H1 G1 g1 ⟨fun i G' H' s1 s2 hi => ?_, fun i G' H' x H'' d s1 s2 hd hy => ?_, fun i G' H' s1 s2 hi => ?_⟩⟩
    · rw [enum_len] at hi
      have h1 : i < vs.length := by rw [d1.length]; omega
      exact ⟨vs, vs[i], SqL.of (s2 _ _ (s1 _ _ gt1)), List.getElem?_eq_getElem h1⟩
    · obtain ⟨T, x1, rfl, hT, rfl, f1⟩ := hy
      obtain ⟨e1, h1, rfl⟩ := enum_get hd
      obtain ⟨v1, hv1, dd1⟩ := DqAll.get' d1 h1
      have c1 := f1 vs (SqL.of (s2 _ _ (s1 _ _ gt1)))
      rw [hv1] at c1
      have c1 := Option.some.inj c1
      subst c1
      have sg : Same G1 (upd G' T (.tup [.int (i : Nat), v1])) := s1.trans (same_upd (s2.free hT))
      exact ⟨upd G' T (.tup [.int (i : Nat), v1]), Grow.new s2 _ hT, dq_pair upd_same (.int _) (Dq.mono sg _ dd1)⟩
    · rw [enum_len] at hi
      exact ⟨vs, SqL.of (s2 _ _ (s1 _ _ gt1)), by rw [d1.length]; exact Nat.le_of_eq hi⟩
end
/-! ### targets -/
theorem En.setUn {K : PySem.W.Frag} {G H : Hp} {σ : L2.St} (en : En K B G H σ ρ) {i : Nat} {o : Option V} : En K B G H (σ.set i o) (ρ.set i .un) := by
  obtain ⟨gr, len, fp, F⟩ := en
  refine ⟨gr, by simpa using len, fun j => if j = i then [] else fp j, fun j s o' h1 h2 => ?_, fun j k a h1 h2 => ?_, fun j a ha => ?_⟩
  · by_cases hj : j = i
    · subst hj
      rw [if_pos rfl]
      by_cases hl : j < ρ.length
      · rw [List.getElem?_set_self hl] at h1
        cases h1
        rfl
      · rw [List.getElem?_eq_none (by simpa using hl)] at h1; cases h1
    · rw [if_neg hj]
      rw [List.getElem?_set_ne (Ne.symm hj)] at h1 h2
      exact F.at_ j s o' h1 h2
  · by_cases hj : j = i
    · rw [if_pos hj] at h1; cases h1
    · by_cases hk : k = i
      · rw [if_pos hk] at h2; cases h2
      · rw [if_neg hj] at h1; rw [if_neg hk] at h2
        exact F.apart j k a h1 h2
  · by_cases hj : j = i
    · rw [if_pos hj] at ha; cases ha
    · rw [if_neg hj] at ha; exact F.own j a ha
def wipeD (ρ : DEnv) : List Nat → DEnv
  | [] => ρ
  | v :: vs => (wipeD ρ vs).set v .un
theorem En.wipe {K : PySem.W.Frag} {G H : Hp} {σ : L2.St} (en : En K B G H σ ρ) : ∀ vs : List Nat, En K B G H (wipe σ vs) (wipeD ρ vs)
  | [] => en
  | _ :: vs => (En.wipe en vs).setUn
theorem wipe_set {σ : L2.St} {i : Nat} {o : Option V} : ∀ {vs : List Nat}, i ∈ vs → wipe (σ.set i o) vs = wipe σ vs
  | [], h => by cases h
  | v :: vs, h => by
    show (wipe (σ.set i o) vs).set v none = (wipe σ vs).set v none
    by_cases hi : i ∈ vs
    · rw [wipe_set hi]
    · have e : i = v := by
        rcases List.mem_cons.mp h with z | z
        · exact z
        · exact absurd z hi
      subst e
      have : ∀ (ws : List Nat), i ∉ ws → wipe (σ.set i o) ws = (wipe σ ws).set i o := by
        intro ws
        induction ws with
        | nil => intro _; rfl
        | cons w ws ih =>
          intro hw
          have h1 : i ≠ w := fun z => hw (by rw [z]; exact List.mem_cons_self)
          show (wipe (σ.set i o) ws).set w none = ((wipe σ ws).set w none).set i o
          rw [ih (fun z => hw (List.mem_cons_of_mem _ z)), List.set_comm _ _ h1]
      rw [this vs hi, List.set_set]
theorem wipe_wipe (σ : L2.St) (vs : List Nat) : wipe (wipe σ vs) vs = wipe σ vs := by
  have : ∀ ws : List Nat, (∀ w ∈ ws, w ∈ vs) → wipe (wipe σ ws) vs = wipe σ vs := by
    intro ws
    induction ws with
    | nil => intro _; rfl
    | cons w ws ih =>
      intro h
      show wipe ((wipe σ ws).set w none) vs = wipe σ vs
      rw [wipe_set (h w List.mem_cons_self)]
      exact ih fun x hx => h x (List.mem_cons_of_mem _ hx)
  exact this vs fun _ h => h
def tG (K : PySem.W.Frag) (B : Bs) (ρ : DEnv) (d : PyData) (vs : List Nat) (ρ' : DEnv) : TG := fun v σ H Q => ∃ G, En K B G H σ ρ ∧ Dq K G v d ∧ ∀ σ' H' G', Grow G H G' H' → wipe σ' vs = wipe σ vs → En K B G' H' σ' ρ' → Q σ' H'
/-- the target takes d; slots vs at most are changed -/
def GV (X : Cx) (B : Bs) (ρ : DEnv) (tg : Expr) (d : PyData) (vs : List Nat) (ρ' : DEnv) : Prop := PG X tg (tG X.K B ρ d vs ρ')
theorem PG.imp {t t' : TG} (h : PG X tg t) (i : ∀ v σ H Q, t' v σ H Q → t v σ H Q) : PG X tg t' := ⟨fun pins s σ H v u Q I r q => h.run pins s σ H v u Q I r (i v σ H Q q)⟩
theorem gv_name {i : Nat} {x : Str} {d : PyData} {vs : List Nat} (hN : X.N.Nodup) (hv : i ∈ vs := by decide) (hi : X.N[i]? = some x := by rfl) (hx : Loc X.env.scope x := by first | exact Or.inl rfl | exact Or.inr rfl) (hf : X.fn x = true ∨ X.env.scope.names.lookup x = some .local := by first | exact .inl rfl | exact .inr rfl | assumption) :
    GV X B ρ (.Name x pos) d vs (ρ.set i (.d d)) :=
  PG.imp (pg_name hN hi hx hf) fun v σ H Q ⟨G, en, dd, k⟩ => k _ H G (Grow.refl en.sub) (wipe_set hv) (en.set dd)
def tGs (K : PySem.W.Frag) (B : Bs) (ρ : DEnv) (ds : List PyData) (vs : List Nat) (ρ' : DEnv) : TGs := fun ws σ H Q => ∃ G, En K B G H σ ρ ∧ DqAll K G ws ds ∧ ∀ σ' H' G', Grow G H G' H' → wipe σ' vs = wipe σ vs → En K B G' H' σ' ρ' → Q σ' H'
def GVs (X : Cx) (B : Bs) (ρ : DEnv) (tgs : List Expr) (ds : List PyData) (vs : List Nat) (ρ' : DEnv) : Prop := PGs X tgs (tGs X.K B ρ ds vs ρ')
theorem PGs.imp {tgs : List Expr} {t t' : TGs} (h : PGs X tgs t) (i : ∀ v σ H Q, t' v σ H Q → t v σ H Q) : PGs X tgs t' := ⟨fun pins s σ H v u Q I r q => h.run pins s σ H v u Q I r (i v σ H Q q)⟩
theorem gvs_nil {vs : List Nat} : GVs X B ρ [] [] vs ρ := PGs.imp pgs_nil fun ws σ H Q ⟨G, en, dd, k⟩ => by
  cases dd
  exact ⟨rfl, k σ H G (Grow.refl en.sub) rfl en⟩
theorem gvs_cons {tg : Expr} {tgs : List Expr} {d : PyData} {ds : List PyData} {vs : List Nat} {ρ1 ρ2 : DEnv} (h1 : GV X B ρ tg d vs ρ1) (h2 : GVs X B ρ1 tgs ds vs ρ2)
    (hs : (assignEach (tg :: tgs) X.env).map (·.2) = assign tg X.env :: (assignEach tgs X.env).map (·.2) := by rfl) : GVs X B ρ (tg :: tgs) (d :: ds) vs ρ2 := by
  refine PGs.imp (pgs_cons h1 h2 hs) fun ws σ H Q ⟨G, en, dd, k⟩ => ?_
  cases dd with
  | cons q1 q2 =>
    refine ⟨_, _, rfl, G, en, q1, fun σ1 H1 G1 g1 w1 en1 => ⟨G1, en1, DqAll.mono g1.gg _ q2, fun σ2 H2 G2 g2 w2 en2 => ?_⟩⟩
    exact k σ2 H2 G2 (g1.trans g2) (w2.trans w1) en2
theorem gv_tup {tgs : List Expr} {kk : Nat} {ds : List PyData} {vs : List Nat} {ρ' : DEnv} (hc : X.calm = true) (h : GVs X B ρ tgs ds vs ρ') (hn : (assignEach tgs X.env).length = ds.length := by rfl) (hst : (assignEach tgs X.env).findIdx? (·.1) = none := by rfl) : GV X B ρ (.Tuple tgs kk pos) (.tuple ds) vs ρ' := by
  refine PG.imp (pg_tup hc h hn hst) fun v σ H Q ⟨G, en, dd, k⟩ => ?_
  cases dd with
  | tup h1 h2 h3 => exact ⟨_, _, rfl, SqT.of (en.sub _ _ h1), h3.length, G, en, h3, k⟩
/-! ### a comprehension -/
def TVs (X : Cx) (B : Bs) (ρ : DEnv) (ifs : List Expr) (b : Bool) : Prop := PTs X ifs (tT X.K B ρ b)
theorem PTs.imp {ifs : List Expr} {t t' : TT} (h : PTs X ifs t) (i : ∀ σ H Q, t' σ H Q → t σ H Q) : PTs X ifs t' := ⟨fun pins s σ H Q I q => h.run pins s σ H Q I (i σ H Q q)⟩
theorem tvs_nil : TVs X B ρ [] true := PTs.imp pts_nil fun σ H Q ⟨G, en, k⟩ => k H G (Grow.refl en.sub)
theorem tvs_one {c : Bool} (h : TV X B ρ e c) : TVs X B ρ [e] c := pts_one h
theorem grow_upd {G H G' H' : Hp} {D : Addr} {o : HO} (g : Grow G H G' H') (h1 : H D = none) (h2 : G' D = none) (no : ∀ xs, o ≠ .tup xs := by exact fun _ z => nomatch z) : Grow G H G' (upd H' D o) := by
  refine ⟨g.gg, fun b x e => ?_, fun b x e => ?_, g.sep, fun t => (g.tc t).updH no⟩
  · rw [upd_ne (ne_of_none e h1)]; exact g.hh b x e
  · rw [upd_ne (ne_of_none e h2)]; exact g.sub b x e
/-- the comprehension's reading -/
theorem lc_ok {α : Type} {K : PySem.W.Frag} {xs : List α} {f g : α → PyData} {p : α → Bool} {ρx : α → DEnv} {vs : List Nat} {tg iter elt : Expr} {σ : L2.St} {H : Hp} {Q : VK} (hz : xs.length ≤ sizeLine) (h : tF K B ρ ((xs.filter p).map g) σ H Q) :
    tLc (tI K B ρ (xs.map f)) (fun v σ H Q => ∃ x, x ∈ xs ∧ tG K B (wipeD ρ vs) (f x) vs (ρx x) v σ H Q) (fun σ H Q => ∃ x, x ∈ xs ∧ tT K B (ρx x) (p x) σ H Q) (fun σ H Q => ∃ x, x ∈ xs ∧ p x = true ∧ tP K B (ρx x) (isD K (g x)) σ H Q) vs σ H Q := by
  obtain ⟨G, en, k⟩ := h
  refine ⟨G, en, fun J H1 G1 g1 its D hD => ?_⟩
  have hHD : H D = none := g1.hh.free hD
  have hGD : G1 D = none := g1.sub.free hD
  refine ⟨fun i m H' => m = xs.length - i ∧ i ≤ xs.length ∧ ∃ G' acc, Grow G H G' H' ∧ Same G1 G' ∧ G' D = none ∧ H' D = some (.lst acc) ∧ acc.length ≤ i ∧ DqAll K G' acc (((xs.take i).filter p).map g),
    ⟨xs.length, by simp, Nat.zero_le _, G1, [], grow_upd g1 hHD hGD, Same.refl _, hGD, upd_same, Nat.le_refl _, .nil⟩, ?_⟩
  rintro i m H' ⟨rfl, hi, G', acc, gr, sG, gD, hacc, hal, hd⟩
  by_cases hlt : i < xs.length
  · refine .inr ⟨its.go i G' H' sG gr.sub (by rw [List.length_map]; exact hlt), fun H'' => ∃ G'' acc', Grow G H G'' H'' ∧ Same G1 G'' ∧ G'' D = none ∧ H'' D = some (.lst acc') ∧ acc'.length ≤ i + 1 ∧ DqAll K G'' acc' (((xs.take (i + 1)).filter p).map g), fun H'' hN => ⟨xs.length - (i + 1), by omega, rfl, hlt, hN⟩, fun v H2 hy => ?_⟩
    have hget : (xs.map f)[i]? = some (f xs[i]) := by rw [List.getElem?_map, List.getElem?_eq_getElem hlt]; rfl
    have hmem : xs[i] ∈ xs := List.getElem_mem hlt
    have htake : (xs.take (i + 1)).filter p = (xs.take i).filter p ++ (if p xs[i] = true then [xs[i]] else []) := by
      rw [List.take_add_one, List.getElem?_eq_getElem hlt, List.filter_append]
      show _ ++ [xs[i]].filter p = _
      by_cases hp : p xs[i] = true
      · rw [if_pos hp, List.filter_cons_of_pos hp]; rfl
      · rw [if_neg hp, List.filter_cons_of_neg hp]; rfl
    obtain ⟨G2, g2, dv⟩ := its.yld i G' H' v H2 _ sG gr.sub hget hy
    have gr2 := gr.trans g2
    refine ⟨xs[i], hmem, G2, (en.grow gr2).wipe vs, dv, fun σ3 H3 G3 g3 w3 en3 => ⟨w3.trans (wipe_wipe σ vs), xs[i], hmem, G3, en3, fun H4 G4 g4 => ?_⟩⟩
    have g234 := (g2.trans g3).trans g4
    have gr4 := gr.trans g234
    have sG4 : Same G1 G4 := sG.trans g234.gg
    have gD4 : G4 D = none := g234.sep D (by rw [hacc]; exact fun z => nomatch z) gD
    by_cases hp : p xs[i] = true
    · rw [hp]
      refine iteT ⟨xs[i], hmem, hp, G4, en3.grow g4, fun y H5 G5 g5 dy => ?_⟩
      have gr5 := gr4.trans g5
      have gD5 : G5 D = none := g5.sep D (by rw [g234.hh _ _ hacc]; exact fun z => nomatch z) gD4
      refine ⟨acc, g5.hh _ _ (g234.hh _ _ hacc), by omega, G5, acc ++ [y], grow_upd gr5 hHD gD5, sG4.trans g5.gg, gD5, upd_same, by rw [List.length_append]; exact Nat.succ_le_succ hal, ?_⟩
      rw [htake, if_pos hp, List.map_append]
      exact DqAll.append (DqAll.mono (g234.gg.trans g5.gg) _ hd) (.cons dy .nil)
    · have hp' : p xs[i] = false := by
        cases e : p xs[i] with
        | true => exact absurd e hp
        | false => rfl
      rw [hp']
      refine iteF ⟨G4, acc, gr4, sG4, gD4, g234.hh _ _ hacc, by omega, ?_⟩
      rw [htake, if_neg hp, List.append_nil]
      exact DqAll.mono g234.gg _ hd
  · have e : i = xs.length := by omega
    subst e
    rw [List.take_length] at hd
    exact .inl ⟨its.stop _ G' H' sG gr.sub (by rw [List.length_map]), k D acc H' G' gr hHD gD hacc (by omega) hd⟩
section
variable {α : Type} {xs : List α} {f g : α → PyData} {pr : α → Bool} {ρx : α → DEnv} {own : List (Str × Nat)} {elt iter : Expr} {ifs : List Expr} {scope : Scope}
/-- [elt for tg in iter if ..] -/
theorem ev_lc (hc : X.calm = true) (hN : X.N.Nodup) (hz : xs.length ≤ sizeLine) (hi : IV X B ρ tg iter (xs.map f)) (ok : BlkOk X.N X.env.scope scope own)
    (hg : ∀ x ∈ xs, ∀ (s : Shared) (H : Hp) (C : Addr) (cl : List (Str × Addr)) (fp : List Addr), GV (X.blk s H scope (PySem.compEnvC scope cl C X.env) fp) B (wipeD ρ (own.map (·.2))) tg (f x) (own.map (·.2)) (ρx x))
    (ht : ∀ x ∈ xs, ∀ (s : Shared) (H : Hp) (C : Addr) (cl : List (Str × Addr)) (fp : List Addr), TVs (X.blk s H scope (PySem.compEnvC scope cl C X.env) fp) B (ρx x) ifs (pr x))
    (he : ∀ x ∈ xs, pr x = true → ∀ (s : Shared) (H : Hp) (C : Addr) (cl : List (Str × Addr)) (fp : List Addr), EV (X.blk s H scope (PySem.compEnvC scope cl C X.env) fp) B (ρx x) elt (g x))
    (hs : ∀ x, foldedSetIterable iter X.env x = pure x := by intro _; rfl) : EVf X B ρ (.ListComp elt [⟨tg, iter, ifs, 0⟩] scope pos) ((xs.filter pr).map g) := by
  refine PE.imp (pe_lc (g := fun v σ H Q => ∃ x, x ∈ xs ∧ tG X.K B (wipeD ρ (own.map (·.2))) (f x) (own.map (·.2)) (ρx x) v σ H Q) (tt := fun σ H Q => ∃ x, x ∈ xs ∧ tT X.K B (ρx x) (pr x) σ H Q) (te := fun σ H Q => ∃ x, x ∈ xs ∧ pr x = true ∧ tP X.K B (ρx x) (isD X.K (g x)) σ H Q) hc hN hi ok ?_ ?_ ?_ hs) fun σ H Q h => lc_ok (tg := tg) (iter := iter) (elt := elt) hz h
  · exact fun s H C cl fp => ⟨fun pins s' σ H' v u Q I r ⟨x, hx, q⟩ => (hg x hx s H C cl fp).run pins s' σ H' v u Q I r q⟩
  · exact fun s H C cl fp => ⟨fun pins s' σ H' Q I ⟨x, hx, q⟩ => (ht x hx s H C cl fp).run pins s' σ H' Q I q⟩
  · exact fun s H C cl fp => ⟨fun pins s' σ H' Q I ⟨x, hx, hp, q⟩ => (he x hx hp s H C cl fp).run pins s' σ H' Q I q⟩
end
end
end UP

namespace UP
open PySem PySem.Spec L2
/-! ### statements -/
/-- what is wanted: behind the statement, of a returned value, at a break, a continue, of an exception (its class, its line) -/
structure DE where
  nx : DEnv → Prop
  rt : DEnv → PyData → Prop
  bk : DEnv → Prop := fun _ => False
  ct : DEnv → Prop := fun _ => False
  ex : DEnv → Value → Option PyData → Prop := fun _ _ _ => False
def XAt (K : PySem.W.Frag) (G H : Hp) (d : Option Addr) : Option PyData → Prop
  | none => d = none
  | some x => ∃ dd v, d = some dd ∧ G dd = some (.xd [("line", v)]) ∧ Dq K G v x
theorem XAt.grow {K : PySem.W.Frag} {G H G' H' : Hp} {d : Option Addr} : ∀ {l : Option PyData}, XAt K G H d l → Same G G' → XAt K G' H' d l
  | none, h, _ => h
  | some x, ⟨dd, v, h1, h2, h3⟩, s => ⟨dd, v, h1, s _ _ h2, Dq.mono s x h3⟩
def WD (K : PySem.W.Frag) (B : Bs) (ex : DEnv → Value → Option PyData → Prop) : WX := fun cls d σ H => ∃ G ρ l, En K B G H σ ρ ∧ XAt K G H d l ∧ ex ρ cls l
/-- an exception that ex wants may leave -/
def TakesD (X : Cx) (B : Bs) (ex : DEnv → Value → Option PyData → Prop) : Prop := Takes X (WD X.K B ex)
def tS (K : PySem.W.Frag) (B : Bs) (ρ : DEnv) (E : DE) : TS := fun D σ H => ∃ G, En K B G H σ ρ ∧ (∀ ρ' σ' G' H', Same G G' → En K B G' H' σ' ρ' → E.nx ρ' → D.nx σ' H') ∧
  (∀ ρ' d v σ' G' H', Same G G' → En K B G' H' σ' ρ' → Dq K G' v d → E.rt ρ' d → D.rt v H') ∧ (∀ ρ' σ' G' H', Same G G' → En K B G' H' σ' ρ' → E.bk ρ' → D.bk σ' H') ∧ (∀ ρ' σ' G' H', Same G G' → En K B G' H' σ' ρ' → E.ct ρ' → D.ct σ' H')
def SD (X : Cx) (B : Bs) (ρ : DEnv) (st : Stmt) (E : DE) : Prop := PS X st (tS X.K B ρ E)
def SDs (X : Cx) (B : Bs) (ρ : DEnv) (sts : List Stmt) (E : DE) : Prop := PSs X sts (tS X.K B ρ E)
section
variable {X : Cx} {B : Bs} {ρ : DEnv} {e a b tg : Expr} {es : List Expr} {pos p : Pos} {st : Stmt} {sts rest : List Stmt} {E : DE}
theorem PS.imp {t t' : TS} (h : PS X st t) (i : ∀ D σ H, t' D σ H → t D σ H) : PS X st t' := ⟨fun pins s σ H D I q => h.run pins s σ H D I (i D σ H q)⟩
theorem PSs.imp {t t' : TS} (h : PSs X sts t) (i : ∀ D σ H, t' D σ H → t D σ H) : PSs X sts t' := ⟨fun pins s σ H D I q => h.run pins s σ H D I (i D σ H q)⟩
/-- statements that may start at several data -/
def tU (X : Cx) (B : Bs) (sts : List Stmt) : TS := fun D σ H => ∃ ρ E, SDs X B ρ sts E ∧ tS X.K B ρ E D σ H
theorem pss_any : PSs X sts (tU X B sts) := ⟨fun pins s σ H D I ⟨ρ, E, h, q⟩ => h.run pins s σ H D I q⟩
theorem tS.mono {K : PySem.W.Frag} {G G' H H' : Hp} {σ σ' : L2.St} {ρ' : DEnv} {D : Ends} (h : tS K B ρ E D σ H) : True := trivial
theorem sd_nil (h : E.nx ρ) : SDs X B ρ [] E := PSs.imp pss_nil fun D σ H ⟨G, en, h1, _⟩ => h1 ρ σ G H (Same.refl _) en h
theorem sd_seq (h : SD X B ρ st { E with nx := fun ρ' => SDs X B ρ' rest E }) : SDs X B ρ (st :: rest) E := by
  refine PSs.imp (pss_cons h pss_any) fun D σ H ⟨G, en, h1, h2, h3, h4⟩ => ⟨G, en, fun ρ' σ' G' H' s en' q => ⟨ρ', E, q, G', en', fun ρ2 σ2 G2 H2 s2 => h1 ρ2 σ2 G2 H2 (s.trans s2), fun r d v t G2 H2 s2 => h2 r d v t G2 H2 (s.trans s2), fun ρ2 σ2 G2 H2 s2 => h3 ρ2 σ2 G2 H2 (s.trans s2), fun ρ2 σ2 G2 H2 s2 => h4 ρ2 σ2 G2 H2 (s.trans s2)⟩, h2, h3, h4⟩
theorem sd_one (h : SD X B ρ st E) : SDs X B ρ [st] E := pss_one h
theorem DE.sub {ρ : DEnv} {E E' : DE} (h : SD X B ρ st E) (h1 : ∀ ρ, E.nx ρ → E'.nx ρ) (h2 : ∀ ρ d, E.rt ρ d → E'.rt ρ d) (h3 : ∀ ρ, E.bk ρ → E'.bk ρ) (h4 : ∀ ρ, E.ct ρ → E'.ct ρ) : SD X B ρ st E' :=
  PS.imp h fun D σ H ⟨G, en, q1, q2, q3, q4⟩ => ⟨G, en, fun ρ' σ' G' H' s en n => q1 ρ' σ' G' H' s en (h1 _ n), fun r d v t G' H' s g dd n => q2 r d v t G' H' s g dd (h2 _ _ n), fun ρ' σ' G' H' s en n => q3 ρ' σ' G' H' s en (h3 _ n), fun ρ' σ' G' H' s en n => q4 ρ' σ' G' H' s en (h4 _ n)⟩
theorem DE.subs {ρ : DEnv} {E E' : DE} (h : SDs X B ρ sts E) (h1 : ∀ ρ, E.nx ρ → E'.nx ρ) (h2 : ∀ ρ d, E.rt ρ d → E'.rt ρ d) (h3 : ∀ ρ, E.bk ρ → E'.bk ρ) (h4 : ∀ ρ, E.ct ρ → E'.ct ρ) : SDs X B ρ sts E' :=
  PSs.imp h fun D σ H ⟨G, en, q1, q2, q3, q4⟩ => ⟨G, en, fun ρ' σ' G' H' s en n => q1 ρ' σ' G' H' s en (h1 _ n), fun r d v t G' H' s g dd n => q2 r d v t G' H' s g dd (h2 _ _ n), fun ρ' σ' G' H' s en n => q3 ρ' σ' G' H' s en (h3 _ n), fun ρ' σ' G' H' s en n => q4 ρ' σ' G' H' s en (h4 _ n)⟩
/-! forgetting slots; a list of one's own becomes data -/
def Le : DEnv → DEnv → Prop
  | [], [] => True
  | s :: r, s' :: r' => (s' = .un ∨ s' = s) ∧ Le r r'
  | _, _ => False
theorem Le.len : ∀ {r r' : DEnv}, Le r r' → r.length = r'.length
  | [], [], _ => rfl
  | _ :: r, _ :: r', h => by rw [List.length_cons, List.length_cons, Le.len h.2]
  | [], _ :: _, h => h.elim
  | _ :: _, [], h => h.elim
theorem Le.get : ∀ {r r' : DEnv}, Le r r' → ∀ {i : Nat} {s' : Slot}, r'[i]? = some s' → s' = .un ∨ r[i]? = some s'
  | [], [], _, _, _, h => by simp at h
  | s :: r, s' :: r', h, 0, _, e => by
    have e := Option.some.inj e
    subst e
    rcases h.1 with z | z
    · exact .inl z
    · exact .inr (by rw [z]; rfl)
  | _ :: r, _ :: r', h, i + 1, _, e => Le.get h.2 (i := i) e
  | [], _ :: _, h, _, _, _ => h.elim
  | _ :: _, [], h, _, _, _ => h.elim
theorem En.weak {K : PySem.W.Frag} {G H : Hp} {σ : L2.St} {ρ' : DEnv} (en : En K B G H σ ρ) (le : Le ρ ρ') : En K B G H σ ρ' := by
  obtain ⟨gr, len, fp, F⟩ := en
  let nw : Nat → List Addr := fun i => match ρ'[i]? with | some .un => [] | some _ => fp i | none => []
  have sub : ∀ i a, a ∈ nw i → a ∈ fp i := fun i a ha => by
    show a ∈ fp i
    have ha : a ∈ (match ρ'[i]? with | some .un => [] | some _ => fp i | none => []) := ha
    split at ha
    · cases ha
    · exact ha
    · cases ha
  refine ⟨gr, by rw [← le.len]; exact len, nw, fun i s o h1 h2 => ?_, fun i j a h1 h2 => F.apart i j a (sub i a h1) (sub j a h2), fun i a ha => F.own i a (sub i a ha)⟩
  rcases le.get h1 with z | z
  · subst z
    show (match ρ'[i]? with | some .un => [] | some _ => fp i | none => []) = []
    rw [h1]
  · by_cases hu : s = .un
    · subst hu
      show (match ρ'[i]? with | some .un => [] | some _ => fp i | none => []) = []
      rw [h1]
    · have e : nw i = fp i := by
        show (match ρ'[i]? with | some .un => [] | some _ => fp i | none => []) = fp i
        rw [h1]
        cases s with
        | un => exact absurd rfl hu
        | d _ => rfl
        | res _ => rfl
      rw [e]
      exact F.at_ i s o z h2
theorem sd_weak {ρ' : DEnv} (le : Le ρ ρ') (h : SDs X B ρ' sts E) : SDs X B ρ sts E := PSs.imp h fun D σ H ⟨G, en, q⟩ => ⟨G, en.weak le, q⟩
theorem sd_weak1 {ρ' : DEnv} (le : Le ρ ρ') (h : SD X B ρ' st E) : SD X B ρ st E := PS.imp h fun D σ H ⟨G, en, q⟩ => ⟨G, en.weak le, q⟩
theorem Le.refl : ∀ r : DEnv, Le r r
  | [] => True.intro
  | _ :: r => ⟨.inr rfl, Le.refl r⟩
theorem freeze_same {K : PySem.W.Frag} {G H : Hp} {σ : L2.St} {i : Nat} {ds : List PyData} (en : En K B G H σ ρ) (h : ρ[i]? = some (.own K ds)) : ∃ G', Same G G' ∧ En K B G' H σ (ρ.set i (.d (.list ds))) := by
  obtain ⟨a, vs, e, h1, z, h2, h3, h4⟩ := en.getOwn h
  have en0 := en
  obtain ⟨fp, F⟩ := en.fp
  have hl : i < ρ.length := (List.getElem?_eq_some_iff.mp h).1
  have sg : Same G (upd G a (.lst vs)) := same_upd h3
  have gr : Grow B.1 B.2 (upd G a (.lst vs)) H := by
    refine ⟨en.gr.gg.trans sg, en.gr.hh, fun b o q => ?_, fun b n q => ?_, fun t => (en.gr.tc t).gg sg⟩
    · by_cases hb : b = a
      · subst hb; rw [upd_same] at q; cases q; exact h1
      · rw [upd_ne hb] at q; exact en.gr.sub b o q
    · have : b ≠ a := fun z => n (by rw [z]; exact h4)
      rw [upd_ne this]; exact en.gr.sep b n q
  have hfp : a ∈ fp i := by
    obtain ⟨v, ev, a', vs', e1, e2, _⟩ := F.at_ i _ _ h e
    cases ev; cases e1
    rw [e2]; exact List.mem_singleton.mpr rfl
  refine ⟨_, sg, gr, by simpa using en.len, fun j => if j = i then [] else fp j, fun j s o q1 q2 => ?_, fun j k b q1 q2 => ?_, fun j b hb => ?_⟩
  · by_cases hj : j = i
    · subst hj
      rw [if_pos rfl]
      rw [List.getElem?_set_self hl] at q1
      rw [e] at q2
      cases q1; cases q2
      exact ⟨rfl, _, rfl, .lst upd_same z (DqAll.mono sg ds h2)⟩
    · rw [if_neg hj]
      rw [List.getElem?_set_ne (Ne.symm hj)] at q1
      exact (F.at_ j s o q1 q2).grow sg fun _ _ => rfl
  · by_cases hj : j = i
    · rw [if_pos hj] at q1; cases q1
    · by_cases hk : k = i
      · rw [if_pos hk] at q2; cases q2
      · rw [if_neg hj] at q1; rw [if_neg hk] at q2
        exact F.apart j k b q1 q2
  · by_cases hj : j = i
    · rw [if_pos hj] at hb; cases hb
    · rw [if_neg hj] at hb
      obtain ⟨q1, q2, q3⟩ := F.own j b hb
      refine ⟨?_, q2, q3⟩
      rw [upd_ne (fun z => hj (F.apart j i b hb (by rw [z]; exact hfp)))]
      exact q1
theorem sd_freeze {i : Nat} {ds : List PyData} (hi : ρ[i]? = some (.own X.K ds)) (h : SDs X B (ρ.set i (.d (.list ds))) sts E) : SDs X B ρ sts E :=
  PSs.imp h fun D σ H ⟨G, en, q1, q2, q3, q4⟩ => by
    obtain ⟨G', s, en'⟩ := freeze_same en hi
    exact ⟨G', en', fun ρ2 σ2 G2 H2 s2 => q1 ρ2 σ2 G2 H2 (s.trans s2), fun r d v t G2 H2 s2 => q2 r d v t G2 H2 (s.trans s2), fun ρ2 σ2 G2 H2 s2 => q3 ρ2 σ2 G2 H2 (s.trans s2), fun ρ2 σ2 G2 H2 s2 => q4 ρ2 σ2 G2 H2 (s.trans s2)⟩
/-! small statements -/
theorem sd_pass (h : E.nx ρ) : SD X B ρ (.Pass pos) E := PS.imp ps_pass fun D σ H ⟨G, en, h1, _⟩ => h1 ρ σ G H (Same.refl _) en h
theorem sd_break (h : E.bk ρ) : SD X B ρ (.Break pos) E := PS.imp ps_break fun D σ H ⟨G, en, _, _, h3, _⟩ => h3 ρ σ G H (Same.refl _) en h
theorem sd_ret {d : PyData} (he : EV X B ρ e d) (h : E.rt ρ d) : SD X B ρ (.Return (some e) pos) E :=
  PS.imp (ps_ret he) fun D σ H ⟨G, en, _, h2, _⟩ => ⟨G, en, fun v H' G' g p => h2 ρ d v σ G' H' g.gg (en.grow g) p h⟩
theorem sd_retN (h : E.rt ρ .none) : SD X B ρ (.Return none pos) E := PS.imp ps_retN fun D σ H ⟨G, en, _, h2, _⟩ => h2 ρ .none .non σ G H (Same.refl _) en .non h
theorem sd_expr {P : Pd} (he : EVP X B ρ e P) (h : E.nx ρ) (hs : swapsWith e none pos.line X.env = pure false := by rfl) : SD X B ρ (.Expr e pos) E :=
  PS.imp (ps_expr he hs) fun D σ H ⟨G, en, h1, _⟩ => ⟨G, en, fun v H' G' g p => h1 ρ σ G' H' g.gg (en.grow g) h⟩
theorem sd_if {c : Bool} {u v : List Stmt} (hc : TV X B ρ e c) (h1 : c = true → SDs X B ρ u E) (h2 : c = false → SDs X B ρ v E) : SD X B ρ (.If e u v pos) E := by
  have lift : ∀ {w : List Stmt} {D : Ends} {σ : L2.St} {H : Hp} {G H' G' : Hp}, SDs X B ρ w E → En X.K B G H σ ρ → Grow G H G' H' → tS X.K B ρ E D σ H → True := fun _ _ _ _ => True.intro
  cases c with
  | true => exact PS.imp (ps_if hc (h1 rfl) (pss_never)) fun D σ H ⟨G, en, q1, q2, q3, q4⟩ => ⟨G, en, fun H1 G1 g1 => iteT ⟨G1, en.grow g1, fun ρ2 σ2 G2 H2 s2 => q1 ρ2 σ2 G2 H2 (g1.gg.trans s2), fun r d v t G2 H2 s2 => q2 r d v t G2 H2 (g1.gg.trans s2), fun ρ2 σ2 G2 H2 s2 => q3 ρ2 σ2 G2 H2 (g1.gg.trans s2), fun ρ2 σ2 G2 H2 s2 => q4 ρ2 σ2 G2 H2 (g1.gg.trans s2)⟩⟩
  | false => exact PS.imp (ps_if hc (pss_never) (h2 rfl)) fun D σ H ⟨G, en, q1, q2, q3, q4⟩ => ⟨G, en, fun H1 G1 g1 => iteF ⟨G1, en.grow g1, fun ρ2 σ2 G2 H2 s2 => q1 ρ2 σ2 G2 H2 (g1.gg.trans s2), fun r d v t G2 H2 s2 => q2 r d v t G2 H2 (g1.gg.trans s2), fun ρ2 σ2 G2 H2 s2 => q3 ρ2 σ2 G2 H2 (g1.gg.trans s2), fun ρ2 σ2 G2 H2 s2 => q4 ρ2 σ2 G2 H2 (g1.gg.trans s2)⟩⟩
/-! stores -/
variable {i : Nat} {x : Str} {pos' : Pos}
theorem sd_set {d : PyData} (hN : X.N.Nodup) (he : EV X B ρ e d) (h : E.nx (ρ.set i (.d d))) (hi : X.N[i]? = some x := by rfl) (hx : Loc X.env.scope x := by first | exact Or.inl rfl | exact Or.inr rfl) (hs : swapsWith e (some (.Name x pos')) pos.line X.env = pure false := by rfl)
    (hf : X.fn x = true ∨ X.env.scope.names.lookup x = some .local := by first | exact .inl rfl | exact .inr rfl | assumption) : SD X B ρ (.Assign [.Name x pos'] e pos) E :=
  PS.imp (ps_set hN hi hx he hs hf) fun D σ H ⟨G, en, h1, _⟩ => ⟨G, en, fun v H' G' g p => h1 _ _ G' H' g.gg ((en.grow g).set p) h⟩
theorem sd_setOwn {ds : List PyData} (hN : X.N.Nodup) (he : EVf X B ρ e ds) (h : E.nx (ρ.set i (.own X.K ds))) (hi : X.N[i]? = some x := by rfl) (hx : Loc X.env.scope x := by first | exact Or.inl rfl | exact Or.inr rfl) (hs : swapsWith e (some (.Name x pos')) pos.line X.env = pure false := by rfl)
    (hf : X.fn x = true ∨ X.env.scope.names.lookup x = some .local := by first | exact .inl rfl | exact .inr rfl | assumption) : SD X B ρ (.Assign [.Name x pos'] e pos) E :=
  PS.imp (ps_set hN hi hx he hs hf) fun D σ H ⟨G, en, h1, _⟩ => ⟨G, en, fun q vs H' G' g n1 n2 hq hz dd => h1 _ _ G' H' g.gg (en.setRes g (R := ownL X.K ds) (nf := [q]) ⟨q, vs, rfl, rfl, hq, hz, dd⟩ fun z hz' => by
    rw [List.mem_singleton.mp hz']
    exact ⟨n1, n2, by rw [hq]; exact fun z => nomatch z⟩) h⟩
/-- several names at once -/
theorem sd_asg {d : PyData} {vs : List Nat} {ρ' : DEnv} (he : EV X B ρ e d) (hg : GV X B ρ tg d vs ρ') (h : E.nx ρ') (hs : swapsWithSole [tg] e pos.line X.env = pure false := by rfl) (hw : swappedStores [tg] e X.env = pure none := by rfl)
    (h1 : (assignEach [tg] X.env).map (·.2) = [assign tg X.env] := by rfl) : SD X B ρ (.Assign [tg] e pos) E :=
  PS.imp (ps_asg he hg hs hw h1) fun D σ H ⟨G, en, q1, _⟩ => ⟨G, en, fun v H' G' g p => ⟨G', en.grow g, p, fun σ2 H2 G2 g2 _ en2 => q1 ρ' σ2 G2 H2 (g.gg.trans g2.gg) en2 h⟩⟩
/-- a, b = x, y -/
theorem sd_par {j : Nat} {y : Str} {d d' : PyData} {px py pt : Pos} {kt k2 pt2} (hc : X.calm = true) (hN : X.N.Nodup) (ha : AV X B ρ [a, b] [d, d']) (h : E.nx ((ρ.set i (.d d)).set j (.d d'))) (hij : i ≠ j := by decide) (hi : X.N[i]? = some x := by rfl) (hj : X.N[j]? = some y := by rfl)
    (hx : X.env.scope.names.lookup x = some .local := by rfl) (hy : X.env.scope.names.lookup y = some .local := by rfl)
    (hw : swappedStores [.Tuple [.Name x px, .Name y py] kt pt] (.Tuple [a, b] k2 pt2) X.env = pure (some [x, y]) := by rfl)
    (hs : swapsWithSole [.Tuple [.Name x px, .Name y py] kt pt] (.Tuple [a, b] k2 pt2) pos.line X.env = pure false := by rfl) : SD X B ρ (.Assign [.Tuple [.Name x px, .Name y py] kt pt] (.Tuple [a, b] k2 pt2) pos) E :=
  PS.imp (ps_par hc hN hi hj hij hx hy ha hw hs) fun D σ H ⟨G, en, q1, _⟩ => ⟨G, en, fun vs H' G' g p => by
    cases p with
    | cons p1 p2 =>
      cases p2 with
      | cons p3 p4 =>
        cases p4
        exact ⟨_, _, rfl, q1 _ _ G' H' g.gg (((en.grow g).set p1).set p3) h⟩⟩
theorem sd_aug {m n : Int} {op : Operator} {f : Int → Int → Int} (hN : X.N.Nodup) (ho : PIp X op (ipI f)) (hρ : ρ[i]? = some (.d (.int m))) (he : EV X B ρ e (.int n)) (h : E.nx (ρ.set i (.d (.int (f m n))))) (hi : X.N[i]? = some x := by rfl) (hx : Loc X.env.scope x := by first | exact Or.inl rfl | exact Or.inr rfl)
    (hf : X.fn x = true ∨ X.env.scope.names.lookup x = some .local := by first | exact .inl rfl | exact .inr rfl | assumption) : SD X B ρ (.AugAssign (.Name x pos') op e pos) E :=
  PS.imp (ps_aug hN hi hx he ho hf) fun D σ H ⟨G, en, q1, _⟩ => by
    obtain ⟨v, ev, dv⟩ := en.get hρ
    cases dv
    exact ⟨_, ev, G, en, fun w H' G' g p => by
      cases p
      exact ⟨m, n, rfl, rfl, q1 _ _ G' H' g.gg ((en.grow g).set (.int _)) h⟩⟩
section
variable {α : Type} {xs : List α} {f g : α → PyData} {pr : α → Bool} {ρx : α → DEnv} {own : List (Str × Nat)} {elt iter : Expr} {ifs : List Expr} {scope : Scope} {spos : Pos}
theorem ps_lc (hc : X.calm = true) (hN : X.N.Nodup) (hz : xs.length ≤ sizeLine) (hi : IV X B ρ tg iter (xs.map f)) (ok : BlkOk X.N X.env.scope scope own)
    (hg : ∀ x ∈ xs, ∀ (s : Shared) (H : Hp) (C : Addr) (cl : List (Str × Addr)) (fp : List Addr), GV (X.blk s H scope (PySem.compEnvC scope cl C X.env) fp) B (wipeD ρ (own.map (·.2))) tg (f x) (own.map (·.2)) (ρx x))
    (ht : ∀ x ∈ xs, ∀ (s : Shared) (H : Hp) (C : Addr) (cl : List (Str × Addr)) (fp : List Addr), TVs (X.blk s H scope (PySem.compEnvC scope cl C X.env) fp) B (ρx x) ifs (pr x))
    (he : ∀ x ∈ xs, pr x = true → ∀ (s : Shared) (H : Hp) (C : Addr) (cl : List (Str × Addr)) (fp : List Addr), EV (X.blk s H scope (PySem.compEnvC scope cl C X.env) fp) B (ρx x) elt (g x))
    (hiN : X.N[i]? = some x) (hx : X.env.scope.names.lookup x = some .local) (hsw : swapsWith (.ListComp elt [⟨tg, iter, ifs, 0⟩] scope pos) (some (.Name x pos')) spos.line X.env = pure true)
    (hs : ∀ x, foldedSetIterable iter X.env x = pure x) : PS X (.Assign [.Name x pos'] (.ListComp elt [⟨tg, iter, ifs, 0⟩] scope pos) spos) (tAsg (tF X.K B ρ ((xs.filter pr).map g)) (gName i)) := by
  refine PS.imp (ps_setLc (g := fun v σ H Q => ∃ x, x ∈ xs ∧ tG X.K B (wipeD ρ (own.map fun p : Str × Nat => p.2)) (f x) (own.map fun p : Str × Nat => p.2) (ρx x) v σ H Q) (tt := fun σ H Q => ∃ x, x ∈ xs ∧ tT X.K B (ρx x) (pr x) σ H Q) (te := fun σ H Q => ∃ x, x ∈ xs ∧ pr x = true ∧ tP X.K B (ρx x) (isD X.K (g x)) σ H Q) hc hN hiN hx hsw hi ok ?_ ?_ ?_ hs) fun D σ H h => lc_ok (tg := tg) (iter := iter) (elt := elt) hz h
  · exact fun s H C cl fp => ⟨fun pins s' σ H' v u Q I r ⟨x, hx, q⟩ => (hg x hx s H C cl fp).run pins s' σ H' v u Q I r q⟩
  · exact fun s H C cl fp => ⟨fun pins s' σ H' Q I ⟨x, hx, q⟩ => (ht x hx s H C cl fp).run pins s' σ H' Q I q⟩
  · exact fun s H C cl fp => ⟨fun pins s' σ H' Q I ⟨x, hx, hp, q⟩ => (he x hx hp s H C cl fp).run pins s' σ H' Q I q⟩
theorem sd_setLc (hc : X.calm = true) (hN : X.N.Nodup) (hz : xs.length ≤ sizeLine) (hi : IV X B ρ tg iter (xs.map f)) (ok : BlkOk X.N X.env.scope scope own)
    (hg : ∀ x ∈ xs, ∀ (s : Shared) (H : Hp) (C : Addr) (cl : List (Str × Addr)) (fp : List Addr), GV (X.blk s H scope (PySem.compEnvC scope cl C X.env) fp) B (wipeD ρ (own.map (·.2))) tg (f x) (own.map (·.2)) (ρx x))
    (ht : ∀ x ∈ xs, ∀ (s : Shared) (H : Hp) (C : Addr) (cl : List (Str × Addr)) (fp : List Addr), TVs (X.blk s H scope (PySem.compEnvC scope cl C X.env) fp) B (ρx x) ifs (pr x))
    (he : ∀ x ∈ xs, pr x = true → ∀ (s : Shared) (H : Hp) (C : Addr) (cl : List (Str × Addr)) (fp : List Addr), EV (X.blk s H scope (PySem.compEnvC scope cl C X.env) fp) B (ρx x) elt (g x))
    (h : E.nx (ρ.set i (.d (.list ((xs.filter pr).map g))))) (hsw : swapsWith (.ListComp elt [⟨tg, iter, ifs, 0⟩] scope pos) (some (.Name x pos')) spos.line X.env = pure true := by exact sw_true rfl rfl rfl (by decide +kernel))
    (hiN : X.N[i]? = some x := by rfl) (hx : X.env.scope.names.lookup x = some .local := by rfl) (hs : ∀ x, foldedSetIterable iter X.env x = pure x := by intro _; rfl) : SD X B ρ (.Assign [.Name x pos'] (.ListComp elt [⟨tg, iter, ifs, 0⟩] scope pos) spos) E :=
  PS.imp (ps_lc hc hN hz hi ok hg ht he hiN hx hsw hs) fun D σ H ⟨G, en, h1, _⟩ => ⟨G, en, fun q vs H' G' g n1 n2 hq hz dd =>
    h1 _ _ (upd G' q (.lst vs)) H' (freshG g n1 n2 hq).gg ((en.grow (freshG g n1 n2 hq)).set (.lst upd_same hz (DqAll.mono (same_upd n2) _ dd))) h⟩
end
/-! writing to a list of one's own -/
theorem sd_append {d : PyData} {ds : List PyData} {apos : Pos} (hρ : ρ[i]? = some (.own X.K ds)) (he : EV X B ρ e d) (hz : ds.length < sizeLine) (h : E.nx (ρ.set i (.own X.K (ds ++ [d])))) (hN : X.N[i]? = some x := by rfl) (hv : Vis X.env.scope x := by first | exact Or.inl rfl | exact Or.inr (Or.inl rfl) | exact Or.inr (Or.inr rfl))
    (hd : (x == ("__debug__" : Str)) = false := by decide) (hcd : (x == ("__classdict__" : Str)) = false := by decide)
    (hbase : attributeBase (.Name x p) "append" X.env (eval (.Name x p) X.env) = eval (.Name x p) X.env := by rfl)
    (hfew : ((backTo pos (starEach [e] X.env)).all (fun x => !x.1) && (backToKw pos (keywordEach [] X.env)).all (fun x => x.1.isSome) && decide (([e] : List Expr).length + ([] : List Keyword).length + (if ([] : List Keyword).isEmpty then 0 else 1) < 30)) = true := by rfl)
    (hline : (apos.endLine == pos.line) = true := by rfl) (hst : starEach [e] X.env = [(false, eval e X.env)] := by rfl) (hpl : (backTo pos (starEach [] X.env)).any (·.1) = false := by rfl)
    (hs : swapsWith (.Call (.Attribute (.Name x p) "append" apos) [e] [] pos) none pos'.line X.env = pure false := by rfl) : SD X B ρ (.Expr (.Call (.Attribute (.Name x p) "append" apos) [e] [] pos) pos') E := by
  refine PS.imp (ps_expr (pe_bm PySem.F.plainAttrs_list PySem.F.slot_list_append PySem.F.type_list_append mt_append (pe_var (i := i) hN hv hd hcd) (pa_cons he pa_nil hst) hbase hfew hline hst hpl) hs) fun D σ H ⟨G, en, h1, _⟩ => ?_
  obtain ⟨q, vs, e1, e2, z, e3, e4, e5⟩ := en.getOwn hρ
  refine ⟨_, e1, .inl ⟨rfl, _, .inl (.inl e2)⟩, G, en, fun v H' G' g p => ?_⟩
  have en' := en.grow g
  have dv : DqAll X.K G' (vs ++ [v]) (ds ++ [d]) := DqAll.append (DqAll.mono g.gg _ e3) (.cons p .nil)
  have hl : vs.length < sizeLine := by rw [e3.length]; exact hz
  refine ⟨q, vs, v, rfl, rfl, g.hh _ _ e2, hl, h1 _ σ G' _ g.gg (en'.putOwn hρ e1 (by rw [List.length_append]; exact hl) dv) h⟩
theorem sd_extend {ds es' : List PyData} {apos : Pos} (hρ : ρ[i]? = some (.own X.K ds)) (he : EV X B ρ e (.list es')) (hz : ds.length + es'.length ≤ sizeLine) (h : E.nx (ρ.set i (.own X.K (ds ++ es')))) (hN : X.N[i]? = some x := by rfl) (hv : Vis X.env.scope x := by first | exact Or.inl rfl | exact Or.inr (Or.inl rfl) | exact Or.inr (Or.inr rfl))
    (hd : (x == ("__debug__" : Str)) = false := by decide) (hcd : (x == ("__classdict__" : Str)) = false := by decide)
    (hbase : attributeBase (.Name x p) "extend" X.env (eval (.Name x p) X.env) = eval (.Name x p) X.env := by rfl)
    (hfew : ((backTo pos (starEach [e] X.env)).all (fun x => !x.1) && (backToKw pos (keywordEach [] X.env)).all (fun x => x.1.isSome) && decide (([e] : List Expr).length + ([] : List Keyword).length + (if ([] : List Keyword).isEmpty then 0 else 1) < 30)) = true := by rfl)
    (hline : (apos.endLine == pos.line) = true := by rfl) (hst : starEach [e] X.env = [(false, eval e X.env)] := by rfl) (hpl : (backTo pos (starEach [] X.env)).any (·.1) = false := by rfl)
    (hs : swapsWith (.Call (.Attribute (.Name x p) "extend" apos) [e] [] pos) none pos'.line X.env = pure false := by rfl) : SD X B ρ (.Expr (.Call (.Attribute (.Name x p) "extend" apos) [e] [] pos) pos') E := by
  refine PS.imp (ps_expr (pe_bm PySem.F.plainAttrs_list PySem.F.slot_list_extend PySem.F.type_list_extend mt_extend (pe_var (i := i) hN hv hd hcd) (pa_cons he pa_nil hst) hbase hfew hline hst hpl) hs) fun D σ H ⟨G, en, h1, _⟩ => ?_
  obtain ⟨q, vs, e1, e2, z, e3, e4, e5⟩ := en.getOwn hρ
  refine ⟨_, e1, .inl ⟨rfl, _, .inl (.inl e2)⟩, G, en, fun v H' G' g p => ?_⟩
  have en' := en.grow g
  cases p with
  | lst l1 l2 l3 =>
    rename_i r ws
    have dv : DqAll X.K G' (vs ++ ws) (ds ++ es') := DqAll.append (DqAll.mono g.gg _ e3) l3
    have hl : vs.length + ws.length ≤ sizeLine := by rw [e3.length, l3.length]; exact hz
    refine ⟨q, r, vs, ws, rfl, rfl, g.hh _ _ e2, g.sub _ _ l1, hl, h1 _ σ G' _ g.gg (en'.putOwn hρ e1 (by rw [List.length_append]; exact hl) dv) h⟩
theorem sd_setItem {o ix : Expr} {d : PyData} {ds : List PyData} {k : Int} {j : Nat} {tpos : Pos} (hρ : ρ[i]? = some (.own X.K ds)) (he : EV X B ρ e d) (hix : EV X B ρ ix (.int k)) (hk : ixN ds.length k = some j) (h : E.nx (ρ.set i (.own X.K (ds.set j d)))) (hN : X.N[i]? = some x := by rfl) (hv : Vis X.env.scope x := by first | exact Or.inl rfl | exact Or.inr (Or.inl rfl) | exact Or.inr (Or.inr rfl))
    (hd : (x == ("__debug__" : Str)) = false := by decide) (hcd : (x == ("__classdict__" : Str)) = false := by decide)
    (ha : ∀ v, assign (.Subscript (.Name x p) ix tpos) X.env v = (do
      let ov ← holding [v] (eval (.Name x p) X.env)
      let iv ← holding [v, ov] (eval ix X.env)
      standAt tpos
      holding [v, ov, iv] (setItem ov iv v)
      release [v, ov, iv] []) := by intro _; rfl)
    (hs : swapsWithSole [.Subscript (.Name x p) ix tpos] e pos.line X.env = pure false := by rfl) (hw : swappedStores [.Subscript (.Name x p) ix tpos] e X.env = pure none := by rfl)
    (hm : (assignEach [.Subscript (.Name x p) ix tpos] X.env).map (·.2) = [assign (.Subscript (.Name x p) ix tpos) X.env] := by rfl) : SD X B ρ (.Assign [.Subscript (.Name x p) ix tpos] e pos) E := by
  refine PS.imp (ps_asg he (pg_sub (pe_var (i := i) hN hv hd hcd) hix set_list ha) hs hw hm) fun D σ H ⟨G, en, h1, _⟩ => ⟨G, en, fun v H1 G1 g1 p1 => ?_⟩
  have en1 := en.grow g1
  obtain ⟨q, vs, e1, e2, z, e3, e4, e5⟩ := en1.getOwn hρ
  refine ⟨_, e1, G1, en1, fun w H2 G2 g2 p2 => ?_⟩
  cases p2
  have dv : DqAll X.K G2 (vs.set j v) (ds.set j d) := DqAll.set (Dq.mono g2.gg _ p1) j (DqAll.mono g2.gg _ e3)
  exact ⟨q, vs, k, j, rfl, rfl, g2.hh _ _ e2, by rw [e3.length]; exact hk, h1 _ σ G2 _ (g1.gg.trans g2.gg) ((en1.grow g2).putOwn hρ e1 (by rw [List.length_set]; exact z) dv) h⟩
/-! ### loops -/
theorem sd_for {α : Type} {xs : List α} {f : α → PyData} {iter : Expr} {body : List Stmt} (Pv : Nat → DEnv → Prop) (vs : List Nat) (po : PassesOwn (model X.prog X.w) X.A X.env X.xe) (hc : X.calm = true) (hi : IV X B ρ tg iter (xs.map f)) (h0 : Pv 0 ρ)
    (hs : ∀ (i : Nat) (y : α) (ρi : DEnv), xs[i]? = some y → Pv i ρi → ∃ ρ', GV X B ρi tg (f y) vs ρ' ∧ SDs X B ρ' body { E with nx := Pv (i + 1), ct := Pv (i + 1), bk := E.nx }) (hd : ∀ ρn, Pv xs.length ρn → E.nx ρn)
    (hsi : ∀ x, foldedSetIterable iter X.env x = pure x := by intro _; rfl) : SD X B ρ (.For tg iter body [] pos) E := by
  let g : TG := fun v σ H Q => ∃ ρi d ρ', GV X B ρi tg d vs ρ' ∧ tG X.K B ρi d vs ρ' v σ H Q
  have hg : PG X tg g := ⟨fun pins s σ H v u Q I r ⟨ρi, d, ρ', h, q⟩ => h.run pins s σ H v u Q I r q⟩
  refine PS.imp (ps_for po hc hi hg (pss_any (B := B)) hsi) fun D σ H ⟨G, en, q1, q2, q3, q4⟩ => ⟨G, en, fun J H1 G1 g1 its => ?_⟩
  refine ⟨fun i m σ H => m = xs.length - i ∧ i ≤ xs.length ∧ ∃ G' ρi, Same G1 G' ∧ En X.K B G' H σ ρi ∧ Pv i ρi, ⟨xs.length, by simp, Nat.zero_le _, G1, ρ, Same.refl _, en.grow g1, h0⟩, ?_⟩
  rintro i m σi Hi ⟨rfl, hil, G', ρi, sG, eni, pv⟩
  by_cases hlt : i < xs.length
  · have hget : xs[i]? = some xs[i] := List.getElem?_eq_getElem hlt
    have hget' : (xs.map f)[i]? = some (f xs[i]) := by rw [List.getElem?_map, hget]; rfl
    obtain ⟨ρ', hgv, hsd⟩ := hs i xs[i] ρi hget pv
    refine .inr ⟨its.go i G' Hi sG eni.sub (by rw [List.length_map]; exact hlt), fun σ' H' => ∃ G'' ρ'', Same G1 G'' ∧ En X.K B G'' H' σ' ρ'' ∧ Pv (i + 1) ρ'', fun σ' H' hN => ⟨xs.length - (i + 1), by omega, rfl, hlt, hN⟩, fun v H2 hy => ?_⟩
    obtain ⟨G2, g2, dv⟩ := its.yld i G' Hi v H2 _ sG eni.sub hget' hy
    refine ⟨ρi, f xs[i], ρ', hgv, G2, eni.grow g2, dv, fun σ3 H3 G3 g3 w3 en3 => ⟨ρ', _, hsd, G3, en3, ?_, ?_, ?_, ?_⟩⟩
    · exact fun ρ4 σ4 G4 H4 s4 en4 n4 => ⟨G4, ρ4, (sG.trans (g2.gg.trans g3.gg)).trans s4, en4, n4⟩
    · exact fun r d v t G4 H4 s4 => q2 r d v t G4 H4 (((g1.gg.trans sG).trans (g2.gg.trans g3.gg)).trans s4)
    · exact fun ρ4 σ4 G4 H4 s4 en4 n4 => q1 ρ4 σ4 G4 H4 (((g1.gg.trans sG).trans (g2.gg.trans g3.gg)).trans s4) en4 n4
    · exact fun ρ4 σ4 G4 H4 s4 en4 n4 => ⟨G4, ρ4, (sG.trans (g2.gg.trans g3.gg)).trans s4, en4, n4⟩
  · have e : i = xs.length := by omega
    subst e
    exact .inl ⟨its.stop _ G' Hi sG eni.sub (by rw [List.length_map]), q1 ρi σi G' Hi (g1.gg.trans sG) eni (hd _ pv)⟩
theorem sd_while {body : List Stmt} (Pv : Nat → DEnv → Prop) (po : PassesOwn (model X.prog X.w) X.A X.env X.xe) (m0 : Nat) (h0 : Pv m0 ρ) {t : Expr}
    (hs : ∀ m ρi, Pv m ρi → ∃ c, TV X B ρi t c ∧ (c = true → SDs X B ρi body { E with nx := fun ρ' => ∃ m', m' < m ∧ Pv m' ρ', ct := fun ρ' => ∃ m', m' < m ∧ Pv m' ρ', bk := E.nx }) ∧ (c = false → E.nx ρi)) : SD X B ρ (.While t body [] pos) E := by
  let tt : TT := fun σ H Q => ∃ ρi c, TV X B ρi t c ∧ tT X.K B ρi c σ H Q
  have ht : PT X t tt := ⟨fun pins s σ H Q I ⟨ρi, c, h, q⟩ => h.run pins s σ H Q I q⟩
  refine PS.imp (ps_while po ht (pss_any (B := B))) fun D σ H ⟨G, en, q1, q2, q3, q4⟩ => ?_
  refine ⟨fun m σ H => ∃ G' ρi, Same G G' ∧ En X.K B G' H σ ρi ∧ Pv m ρi, ⟨m0, G, ρ, Same.refl _, en, h0⟩, ?_⟩
  rintro m σi Hi ⟨G', ρi, sG, eni, pv⟩
  obtain ⟨c, hc, h1, h2⟩ := hs m ρi pv
  refine ⟨ρi, c, hc, G', eni, fun H1 G1 g1 => ?_⟩
  cases c with
  | true =>
    refine iteT ⟨fun σ' H' => ∃ m', m' < m ∧ ∃ G'' ρ'', Same G G'' ∧ En X.K B G'' H' σ' ρ'' ∧ Pv m' ρ'', fun σ' H' h => h, ρi, _, h1 rfl, G1, eni.grow g1, ?_, ?_, ?_, ?_⟩
    · exact fun ρ4 σ4 G4 H4 s4 en4 ⟨m', hm, n4⟩ => ⟨m', hm, G4, ρ4, (sG.trans g1.gg).trans s4, en4, n4⟩
    · exact fun r d v t G4 H4 s4 => q2 r d v t G4 H4 ((sG.trans g1.gg).trans s4)
    · exact fun ρ4 σ4 G4 H4 s4 en4 n4 => q1 ρ4 σ4 G4 H4 ((sG.trans g1.gg).trans s4) en4 n4
    · exact fun ρ4 σ4 G4 H4 s4 en4 ⟨m', hm, n4⟩ => ⟨m', hm, G4, ρ4, (sG.trans g1.gg).trans s4, en4, n4⟩
  | false => exact iteF (q1 ρi σi G1 H1 (sG.trans g1.gg) (eni.grow g1) (h2 rfl))
end
/-! ### defs -/
inductive Out where
  | ret (d : PyData)
  | exc (c : Value) (l : Option PyData)
/-- a def by its graph -/
def spF (K : PySem.W.Frag) (R : List PyData → Out → Prop) : Sp := fun vs H Q E => ∃ G ds o, Same G H ∧ Tc G H ∧ DqAll K G vs ds ∧ R ds o ∧ match o with
  | .ret d => ∀ v H' G', Grow G H G' H' → Dq K G' v d → Q v H'
  | .exc c l => ∀ d H' G', Grow G H G' H' → XAt K G' H' d l → E c d H'
abbrev FnD (P : Program) (w : World) (K : PySem.W.Frag) (mg : Str → Option Value) (base : Heap) (k : Nat) (f : Addr) (fd : FuncData) (ps : List Str) (R : List PyData → Out → Prop) : Prop := FnOk P w K mg base (L2.CX P w) k f fd ps (spF K R)
section
variable {X : Cx} {B : Bs} {ρ : DEnv} {e : Expr} {es : List Expr} {pos p : Pos} {k : Nat} {f : Addr} {fd : FuncData} {ps : List Str} {R : List PyData → Out → Prop} {x : Str} {ds : List PyData}
theorem ev_call {d : PyData} (F : FnD X.prog X.w X.K X.mg X.base k f fd ps R) (hr : Room k X.A) (hm : X.mg x = some (.ref f)) (hk : PySem.W.keepIn X.K (.ref f) = true) (hb : Binds X.K fd ps []) (ha : AV X B ρ (e :: es) ds) (hR : R ds (.ret d)) (hg : Gl X x := by rfl)
    (hdb : (x == ("__debug__" : Str)) = false := by decide) (he : starEach (e :: es) X.env = (false, eval e X.env) :: starEach es X.env := by rfl) (hpl : (backTo pos (starEach es X.env)).any (·.1) = false := by rfl) : EV X B ρ (.Call (.Name x p) (e :: es) [] pos) d := by
  refine PE.imp (pe_call F hr hg hm hk hb .nil passL ha hdb he hpl) fun σ H Q ⟨G, en, k⟩ => ⟨G, en, fun vs H1 G1 g1 p1 => ?_⟩
  show spF X.K R (vs ++ []) H1 Q E0
  rw [List.append_nil]
  exact ⟨G1, ds, .ret d, g1.sub, g1.tc (en.gr.tc B.3), p1, hR, fun v H' G' g pp => k v H' G' (g1.trans g) pp⟩
/-- an expression that may raise -/
def tX (K : PySem.W.Frag) (B : Bs) (ρ : DEnv) (o : Out) (ex : DEnv → Value → Option PyData → Prop) : TE := fun σ H Q => ∃ G, En K B G H σ ρ ∧ match o with
  | .ret d => ∀ v H' G', Grow G H G' H' → Dq K G' v d → Q v H'
  | .exc c l => ex ρ c l
def EVx (X : Cx) (B : Bs) (ex : DEnv → Value → Option PyData → Prop) (ρ : DEnv) (e : Expr) (o : Out) : Prop := PE X e (tX X.K B ρ o ex)
theorem evx_call {o : Out} {ex : DEnv → Value → Option PyData → Prop} (tk : TakesD X B ex) (F : FnD X.prog X.w X.K X.mg X.base k f fd ps R) (hr : Room k X.A) (hm : X.mg x = some (.ref f)) (hk : PySem.W.keepIn X.K (.ref f) = true) (hb : Binds X.K fd ps []) (ha : AV X B ρ (e :: es) ds) (hR : R ds o) (hg : Gl X x := by rfl)
    (hdb : (x == ("__debug__" : Str)) = false := by decide) (he : starEach (e :: es) X.env = (false, eval e X.env) :: starEach es X.env := by rfl) (hpl : (backTo pos (starEach es X.env)).any (·.1) = false := by rfl) : EVx X B ex ρ (.Call (.Name x p) (e :: es) [] pos) o := by
  refine PE.imp (pe_callS F hr hg hm hk hb (fun σ => passAt tk σ) ha hdb he hpl) fun σ H Q ⟨G, en, k⟩ => ⟨G, en, fun vs H1 G1 g1 p1 => ?_⟩
  cases o with
  | ret d => exact ⟨G1, ds, .ret d, g1.sub, g1.tc (en.gr.tc B.3), p1, hR, fun v H' G' g pp => k v H' G' (g1.trans g) pp⟩
  | exc c l => exact ⟨G1, ds, .exc c l, g1.sub, g1.tc (en.gr.tc B.3), p1, hR, fun d H' G' g xa => ⟨G', ρ, l, en.grow (g1.trans g), xa, k⟩⟩
theorem evx_ev {d : PyData} {ex : DEnv → Value → Option PyData → Prop} (h : EV X B ρ e d) : EVx X B ex ρ e (.ret d) := h
variable {E : DE}
theorem sd_exprX {o : Out} (he : EVx X B E.ex ρ e o) (h : ∀ d, o = .ret d → E.nx ρ) (hx : ∀ c l, o = .exc c l → E.ex ρ c l) (hs : swapsWith e none pos.line X.env = pure false := by rfl) : SD X B ρ (.Expr e pos) E :=
  PS.imp (ps_expr he hs) fun D σ H ⟨G, en, h1, _⟩ => by
    cases o with
    | ret d => exact ⟨G, en, fun v H' G' g p => h1 ρ σ G' H' g.gg (en.grow g) (h d rfl)⟩
    | exc c l => exact ⟨G, en, hx c l rfl⟩
theorem sd_retX {o : Out} (he : EVx X B E.ex ρ e o) (h : ∀ d, o = .ret d → E.rt ρ d) (hx : ∀ c l, o = .exc c l → E.ex ρ c l) : SD X B ρ (.Return (some e) pos) E :=
  PS.imp (ps_ret he) fun D σ H ⟨G, en, _, h2, _⟩ => by
    cases o with
    | ret d => exact ⟨G, en, fun v H' G' g p => h2 ρ d v σ G' H' g.gg (en.grow g) p (h d rfl)⟩
    | exc c l => exact ⟨G, en, hx c l rfl⟩
theorem sd_setX {o : Out} {i : Nat} {pos' : Pos} (hN : X.N.Nodup) (he : EVx X B E.ex ρ e o) (h : ∀ d, o = .ret d → E.nx (ρ.set i (.d d))) (hx' : ∀ c l, o = .exc c l → E.ex ρ c l) (hi : X.N[i]? = some x := by rfl) (hx : Loc X.env.scope x := by first | exact Or.inl rfl | exact Or.inr rfl) (hs : swapsWith e (some (.Name x pos')) pos.line X.env = pure false := by rfl)
    (hf : X.fn x = true ∨ X.env.scope.names.lookup x = some .local := by first | exact .inl rfl | exact .inr rfl | assumption) : SD X B ρ (.Assign [.Name x pos'] e pos) E :=
  PS.imp (ps_set hN hi hx he hs hf) fun D σ H ⟨G, en, h1, _⟩ => by
    cases o with
    | ret d => exact ⟨G, en, fun v H' G' g p => h1 _ _ G' H' g.gg ((en.grow g).set p) (h d rfl)⟩
    | exc c l => exact ⟨G, en, hx' c l rfl⟩
/-! raise -/
structure ExcC1 (K : PySem.W.Frag) (mg : Str → Option Value) (x : Str) (C : Addr) : Prop where
  q : PySem.W.excIn K C [.type "ValueError", .type "Exception", .type "BaseException", .type "object"] "ValueError.__new__" = true
  g : mg x = some (.ref C)
  k : PySem.W.keepIn K (.ref C) = true
  b : PySem.W.subIn K (.ref C) (.type "BaseException") = some true
  t : PySem.W.typeIn K (.ref C) = some (.type "type")
theorem sd_raise {C : Addr} {m : Str} {j : Nat} {p2 pos' : Pos} (hc : X.calm = true) (tk : TakesD X B E.ex) (F : ExcC1 X.K X.mg x C) (h : E.ex ρ (.ref C) none) (hg : Gl X x := by rfl) (hdb : (x == ("__debug__" : Str)) = false := by decide) :
    SD X B ρ (.Raise (some (.Call (.Name x p) [.Constant (.str m) j p2] [] pos)) none pos') E :=
  PS.imp (ps_raise hc tk (pmk_own PySem.F.excBase_ValueError F.q F.g F.k (raises_own F.b F.t) hg hdb)) fun D σ H ⟨G, en, _⟩ => ⟨G, ρ, none, en, rfl, h⟩
end
/-- a def's data at its start -/
def rho0 (N : List Str) (ds : List PyData) : DEnv := ds.map Slot.d ++ List.replicate (N.length - ds.length) .un
theorem en_start {K : PySem.W.Frag} {G H : Hp} {N : List Str} {vs : List V} {ds : List PyData} (s : Same G H) (t : Tc G H) (h : DqAll K G vs ds) : En K ⟨G, H, t⟩ G H (L2.start N vs) (rho0 N ds) := by
  have hl := h.length
  refine ⟨Grow.refl s, by unfold L2.start rho0; simp [hl], fun _ => [], fun i sl o h1 h2 => ?_, fun _ _ _ h _ => (by cases h), fun _ _ h => (by cases h)⟩
  unfold rho0 at h1
  unfold L2.start at h2
  by_cases hi : i < ds.length
  · rw [List.getElem?_append_left (by rw [List.length_map]; exact hi), List.getElem?_map] at h1
    rw [List.getElem?_append_left (by rw [List.length_map, hl]; exact hi), List.getElem?_map] at h2
    obtain ⟨v, hv, dd⟩ := DqAll.get' h (List.getElem?_eq_getElem hi)
    rw [List.getElem?_eq_getElem hi] at h1
    rw [hv] at h2
    cases h1; cases h2
    exact ⟨rfl, v, rfl, dd⟩
  · rw [List.getElem?_append_right (by rw [List.length_map]; omega)] at h1
    have : sl = .un := by
      rw [List.getElem?_replicate] at h1
      split at h1
      · exact (Option.some.inj h1).symm
      · cases h1
    subst this
    rfl
section
variable {P : Program} {w : World} {K : PySem.W.Frag} {mg : Str → Option Value} {base : Heap}
abbrev cxD (P : Program) (w : World) (K : PySem.W.Frag) (mg : Str → Option Value) (base : Heap) (N : List Str) (qual : Str) (st : Stmt) (f : Addr) (cdv : Value) (A : Around) (outer : List Env) (s : Shared) (H : Hp) (E : XK) : Cx :=
  cxOf (L2.CX P w) P w K mg base N qual (defScope st) f cdv A outer s H E
/-- THE RULE for a def -/
theorem fnD {x qual : Str} {st : Stmt} {f : Addr} {fd : FuncData} {N ps : List Str} {k : Nat} {R : List PyData → Out → Prop} (F : Fun K x qual st f fd) (S : FnScope N ps (defScope st)) (hl : ∀ ds o, R ds o → ds.length = ps.length)
    (body : ∀ (cdv : Value) (A : Around) (outer : List Env) (s : Shared) (H : Hp) (E : XK) (B : Bs) (ds : List PyData) (o : Out), R ds o → Room k (cxD P w K mg base N qual st f cdv A outer s H E).A →
      PassesOwn (model P w) (cxD P w K mg base N qual st f cdv A outer s H E).A (cxD P w K mg base N qual st f cdv A outer s H E).env (cxD P w K mg base N qual st f cdv A outer s H E).xe →
      TakesD (cxD P w K mg base N qual st f cdv A outer s H E) B (fun _ c l => o = .exc c l) →
      SDs (cxD P w K mg base N qual st f cdv A outer s H E) B (rho0 N ds) (defBody st) { nx := fun _ => o = .ret .none, rt := fun _ d => o = .ret d, ex := fun _ c l => o = .exc c l }) : FnD P w K mg base (k + 1) f fd ps R := by
  refine F.okX S (fun vs H Q E ⟨G, ds, o, _, _, hd, hR, _⟩ => by rw [hd.length]; exact hl ds o hR) fun cdv A outer s H vs Q E hr ⟨G, ds, o, sG, tG, hd, hR, q⟩ => ?_
  have tk0 : Takes (cxD P w K mg base N qual st f cdv A outer s H E) (fun cls d _ H => E cls d H) := takes_of rfl rfl rfl rfl
  have tk : TakesD (cxD P w K mg base N qual st f cdv A outer s H E) ⟨G, H, tG⟩ (fun _ c l => o = .exc c l) := by
    refine tk0.imp fun c d σ H' ⟨G', ρ', l, en, xa, e⟩ => ?_
    subst e
    exact q d H' G' en.gr xa
  refine ⟨_, body cdv A outer s H E ⟨G, H, tG⟩ ds o hR hr (passes_of rfl) tk, G, en_start sG tG hd, fun ρ' σ' G' H' s' en' e => ?_, fun ρ' d v σ' G' H' s' g dd e => ?_, fun _ _ _ _ _ _ z => z.elim, fun _ _ _ _ _ _ z => z.elim⟩
  · have e : o = .ret .none := e
    subst e
    exact q .non H' G' en'.gr .non
  · have e : o = .ret d := e
    subst e
    exact q v H' G' g.gr dd
end
end UP

/-! enumerate of a tuple, sum of a tuple. -/
namespace UP
open PySem PySem.Spec PyProof.Rows L2
open AutoSeq1 (wpAny_loadPart')
theorem enumNewT (tA : Addr) (its : Array Value) (nn : Nat) (dc : Option Addr) (sl : Array (Option Value)) :
    Meets (Builtin.«enumerate.__new__» ⟨[.type "enumerate", .ref tA], []⟩) (fun _ R s => s.heap.get? tA = some { cls := .type "tuple", dict := dc, data := .seq its nn, slots := sl } ∧
      R (.ok (.ret (.ref (s.heap.push { cls := .type "tuple_iterator", data := .fields #[.ref tA, .int 0 0] }).objs.size)))
        { s with heap := (s.heap.push { cls := .type "tuple_iterator", data := .fields #[.ref tA, .int 0 0] }).push { cls := .type "enumerate", data := .fields #[.none, .bool false, .ref s.heap.objs.size, rawInt 0, .none, .none] } }) :=
  .of_wp fun prog w A R s h => by
    obtain ⟨hp, gg, dd, tt, oo⟩ := s
    obtain ⟨hl, h⟩ := h
    have hsub0 := sub_enumerate
    have hT : Heap.IsTuple (Shared.heap ⟨hp, gg, dd, tt, oo⟩) tA its := ⟨_, hl, rfl, nn, rfl⟩
    wp_walk using wpAny_loadPart' hl
    refine wpAny_stack_any fun st => wpAny_pure ?_
    split
    · rename_i c _ _ _ _ _
      cases (c == Value.type "enumerate")
      · wp_walk using wpAny_loadPart' hl, wpAny_pyIter_tuple hT
        exact ⟨_, rfl, h⟩
      · wp_walk using wpAny_loadPart' hl, wpAny_pyIter_tuple hT
        exact ⟨_, rfl, h⟩
    · wp_walk using wpAny_loadPart' hl, wpAny_pyIter_tuple hT
      exact ⟨_, rfl, h⟩
theorem callEnumT {prog : Program} {w : World} {A : Around} {E : Value → Shared → Prop} {s : Shared} {tA : Addr} {its : Array Value} {Q : Value → Shared → Prop} (hL : s.heap.IsTuple tA its)
    (h : ∀ h', IsEnum h' (s.heap.objs.size + 1) s.heap.objs.size 0 .none → h'.IsTupleIter s.heap.objs.size tA 0 → (∀ b o, s.heap.get? b = some o → h'.get? b = some o) → Q (.ref (s.heap.objs.size + 1)) { s with heap := h' }) :
    wpAny (model prog w) A (call (.type "enumerate") [.ref tA]) Q E s := by
  obtain ⟨⟨c, dc, dt, sl⟩, hl, hc, nn, hd⟩ := hL
  have hc : c = .type "tuple" := hc
  have hd : dt = .seq its nn := hd
  subst hc hd
  refine callType_new F.called_enumerate (by decide) (F.typeCall_enumerate_1 _) (F.newCall_enumerate_1 _) (fun ob => F.args_object_init_2 ob _) F.entry_enumerate_new (enumNewT tA its nn dc sl) ⟨hl, ?_⟩
  have hz : (s.heap.push { cls := .type "tuple_iterator", data := .fields #[.ref tA, .int 0 0] }).objs.size = s.heap.objs.size + 1 := Heap.size_push ..
  show _ ∧ _
  rw [hz]
  have he : IsEnum ((s.heap.push { cls := .type "tuple_iterator", data := .fields #[.ref tA, .int 0 0] }).push { cls := .type "enumerate", data := .fields #[.none, .bool false, .ref s.heap.objs.size, rawInt 0, .none, .none] }) (s.heap.objs.size + 1) s.heap.objs.size 0 .none := by
    have q := Heap.get?_push_size (s.heap.push { cls := .type "tuple_iterator", data := .fields #[.ref tA, .int 0 0] }) (o := { cls := .type "enumerate", data := .fields #[.none, .bool false, .ref s.heap.objs.size, rawInt 0, .none, .none] }) rfl
    rw [hz] at q
    exact q
  exact ⟨⟨_, he, rfl⟩, h _ he ⟨_, Heap.get?_push_of_some _ (Heap.get?_push_size _ rfl), rfl, rfl⟩ fun b o x => Heap.get?_push_of_some _ (Heap.get?_push_of_some _ x)⟩
/-- the walk -/
def ItTe (K : PySem.W.Frag) (a : Addr) : It :=
  ⟨fun i H => ∃ (xs : List V) (x : V), SqT K H a xs ∧ xs[i]? = some x, fun i H v H' => ∃ T x, v = .ref T ∧ H T = none ∧ H' = upd H T (.tup [.int (i : Nat), x]) ∧ ∀ xs, SqT K H a xs → xs[i]? = some x, fun i H => ∃ xs : List V, SqT K H a xs ∧ i = xs.length⟩
theorem turnTe {P : Program} {w : World} {K : PySem.W.Frag} {elts : List Expr} {kk : Nat} {tpos : Pos} (a e it : Addr) :
    Turn P w K (.Tuple elts kk tpos) (ItTe K a) [e, it] e (fun i h => (∃ old, IsEnum h e it ((i : Nat) : Int) old) ∧ h.IsTupleIter it a i ∧ e ≠ it ∧ e ≠ a ∧ a ≠ it) where
  mem := List.mem_cons_self
  obj := fun i h st b hb => by
    obtain ⟨⟨old, he⟩, ⟨o, ho, hc, hd⟩, _⟩ := st
    rcases List.mem_cons.mp hb with z | z
    · rw [z]; exact ⟨_, he, fun v q => nomatch q⟩
    · rw [List.mem_singleton.mp z]; exact ⟨o, ho, fun v q => by rw [hd] at q; cases q⟩
  keep := fun i h h' ⟨⟨old, he⟩, hi, hne⟩ k => ⟨⟨old, k e List.mem_cons_self _ he⟩, hi.at fun o q => k it (by simp) o q, hne⟩
  item := by
    intro X hP hw hK hc i pins s σ H E I hf st hg
    subst hP hw hK
    obtain ⟨⟨old, he⟩, hit, hne, hea, hai⟩ := st
    obtain ⟨xs, x, hq, hx⟩ := hg
    obtain ⟨its, rv, p, hz⟩ := I.tuple hq
    have hil : i < its.toArray.size := by
      have := (List.getElem?_eq_some_iff.mp hx).1
      rw [List.size_toArray, ← rv.length]; exact this
    have hel : e < s.heap.objs.size := Heap.lt_size he
    have hitl : it < s.heap.objs.size := by obtain ⟨_, q, _⟩ := hit; exact Heap.lt_size q
    have DD := Draws.tuple (prog := X.prog) (w := X.w) (A := X.A.in1) (I.ok.hd hc) it a hai its.toArray
    refine wpAny_pyNext_enum_itemD DD he ⟨hit, p⟩ hil hne (by simp [hne, hea]) fun u h' tk hu ho hst hT hsz hk => ?_
    have hu2 : its[i]? = some u := by simpa using hu
    have ru : RelV x u := by
      obtain ⟨u', e1, e2⟩ := rv.get hx
      rw [hu2] at e1; cases e1
      exact e2
    refine ⟨_, rfl, wpAny_letOwnedTupleGo_enum (s := { s with heap := h', toks := tk + 1 }) ho fun h'' he' sb => ?_⟩
    have hT2 : h''.get? s.heap.objs.size = some { cls := .type "tuple", data := .seq #[.int i tk, u] } := (sb.2 _ (Nat.ne_of_gt hel)).trans hT
    have new : ObjOk X.prog X.w (upd H s.heap.objs.size (.tup [.int (i : Nat), x])) h'' s.heap.objs.size (.tup [.int (i : Nat), x]) :=
      ⟨by show 2 ≤ sizeLine; decide, [.int i tk, u], .cons ⟨_, rfl⟩ (.cons ru .nil), ⟨_, hT2, rfl, _, rfl⟩⟩
    have I1 : Inv X pins σ (upd H s.heap.objs.size (.tup [.int (i : Nat), x])) { s with heap := h'', toks := tk + 1 } :=
      I.turnedNew (ch := [e, it]) (fun b ob hb q => (sb.2 b (fun z => hb (by simp [z]))).trans (hk b ob (fun z => hb (by simp [z])) (fun z => hb (by simp [z])) q)) hf (Nat.le_refl _) new
    refine ⟨.ref s.heap.objs.size, _, I1, rfl, ⟨_, x, rfl, I.hok.fresh (Nat.le_refl _), rfl, fun ys hy => by rw [I.tuple_inj hy hq]; exact hx⟩, ⟨⟨u, ?_⟩, hst.1.at fun o q => (sb.2 it (Ne.symm hne)).trans q, hne, hea, hai⟩, fun b hb => ?_⟩
    · rw [show ((i + 1 : Nat) : Int) = (i : Int) + 1 by omega]
      exact he'
    · have hb' : b < s.heap.objs.size := by
        rcases List.mem_cons.mp hb with z | z
        · rw [z]; exact hel
        · rw [List.mem_singleton.mp z]; exact hitl
      rw [upd_ne (Nat.ne_of_lt hb')]
      exact (hf b hb).1
  done := by
    intro X hP hw hK hc i pins s σ H E I hf st hg
    subst hP hw hK
    obtain ⟨⟨old, he⟩, hit, hne, hea, hai⟩ := st
    obtain ⟨xs, hq, hx⟩ := hg
    obtain ⟨its, rv, p, hz⟩ := I.tuple hq
    obtain ⟨f0, f1, f2, f3, f4, f5⟩ := hf it (by simp)
    have hl : i = its.toArray.size := by rw [List.size_toArray, ← rv.length]; exact hx
    subst hl
    have DD := Draws.tuple (prog := X.prog) (w := X.w) (A := X.A.in1) (I.ok.hd hc) it a hai its.toArray
    exact wpAny_pyNext_enum_endD DD he ⟨hit, p⟩ fun h' eb => ⟨rfl, I.turned (t' := s.toks) (fun b o hb q => eb b o hb q) f0 f1 f3 f4 f5⟩
  self := fun A i s Q E ⟨⟨_, he⟩, _⟩ h => wpAny_pyIter_enum he h
def iEnumT (K : PySem.W.Frag) (ta : TA) : TI := fun σ H R => ta σ H fun vs H1 => ∃ a xs, vs = [.ref a] ∧ SqT K H1 a xs ∧ R (ItTe K a) H1
theorem pi_enumT {X : Cx} {e : Expr} {ta : TA} {p pos tpos : Pos} {elts : List Expr} {kk : Nat} (hg : Gl X "enumerate") (hm : X.mg "enumerate" = none) (ha : PA X [e] ta) (hs : starEach [e] X.env = [(false, eval e X.env)] := by rfl) :
    PI X (.Tuple elts kk tpos) (.Call (.Name "enumerate" p) [e] [] pos) (iEnumT X.K ta) := by
  refine ⟨fun pins s σ H R I h => ?_⟩
  refine Call_ (ld_blt I hg hm boot_enumerate (PyProof.Rows.callWith_type1 (thn (ha.run pos pins s σ H _ I h) fun us s1 ⟨vs, H1, I1, r1, q1⟩ => ?_) hs rfl))
  obtain ⟨a, xs, ex, hq, q⟩ := q1
  subst ex
  cases r1 with
  | cons r rr =>
    cases rr
    cases r
    obtain ⟨its, rv, p', hz⟩ := I1.tuple hq
    have hlt : a < s1.heap.objs.size := p'.lt
    refine callEnumT p' fun h' he hit hk => wpAny_pyIter_enum he ?_
    have I2 : Inv X pins σ H1 { s1 with heap := h' } := I1.kept (t' := s1.toks) hk
    refine ⟨s1.heap.objs.size + 1, [s1.heap.objs.size + 1, s1.heap.objs.size], _, _, H1, rfl, I2, turnTe a (s1.heap.objs.size + 1) s1.heap.objs.size, ⟨⟨.none, he⟩, hit, Nat.succ_ne_self _, Nat.ne_of_gt (Nat.lt_succ_of_lt hlt), Nat.ne_of_lt hlt⟩, fun b hb => ?_, q⟩
    have hle : s1.heap.objs.size ≤ b := by
      rcases List.mem_cons.mp hb with z | z
      · rw [z]; exact Nat.le_add_right _ _
      · rw [List.mem_singleton.mp z]; exact Nat.le_refl _
    exact I1.fpOk hle (I1.hok.fresh hle)
section
variable {X : Cx} {B : Bs} {ρ : DEnv} {e : Expr} {pos p tpos : Pos} {elts : List Expr} {kk : Nat}
theorem iv_enumT {ds : List PyData} (hm : X.mg "enumerate" = none) (ha : EV X B ρ e (.tuple ds)) (hg : Gl X "enumerate" := by rfl) (hs : starEach [e] X.env = [(false, eval e X.env)] := by rfl) : IV X B ρ (.Tuple elts kk tpos) (.Call (.Name "enumerate" p) [e] [] pos) (enumD ds) := by
  refine PI.imp (pi_enumT hg hm (av_one ha hs) hs) fun σ H R ⟨G, en, k⟩ => ⟨G, en, fun vs H1 G1 g1 p1 => ?_⟩
  cases p1 with
  | cons q1 q2 =>
    cases q2
    obtain ⟨r1, vs, rfl, t1, gt1, z1, d1⟩ := Dq.tuple g1.sub q1
    refine ⟨r1, vs, rfl, t1, k _ H1 G1 g1 ⟨fun i G' H' s1 s2 hi => ?_, fun i G' H' x H'' d s1 s2 hd hy => ?_, fun i G' H' s1 s2 hi => ?_⟩⟩
    · rw [enum_len] at hi
      have h1 : i < vs.length := by rw [d1.length]; omega
      exact ⟨vs, vs[i], SqT.of (s2 _ _ (s1 _ _ gt1)), List.getElem?_eq_getElem h1⟩
    · obtain ⟨T, x1, rfl, hT, rfl, f1⟩ := hy
      obtain ⟨e1, h1, rfl⟩ := enum_get hd
      obtain ⟨v1, hv1, dd1⟩ := DqAll.get' d1 h1
      have c1 := f1 vs (SqT.of (s2 _ _ (s1 _ _ gt1)))
      rw [hv1] at c1
      have c1 := Option.some.inj c1
      subst c1
      have sg : Same G1 (upd G' T (.tup [.int (i : Nat), v1])) := s1.trans (same_upd (s2.free hT))
      exact ⟨upd G' T (.tup [.int (i : Nat), v1]), Grow.new s2 _ hT, dq_pair upd_same (.int _) (Dq.mono sg _ dd1)⟩
    · rw [enum_len] at hi
      exact ⟨vs, SqT.of (s2 _ _ (s1 _ _ gt1)), by rw [d1.length]; exact hi.symm⟩
/-- sum of a tuple of ints -/
theorem cr_sumT (hc : X.calm = true) : CallR X (.builtin "sum") (fun vs H Q => ∃ (a : Addr) (ns : List Int), vs = [V.ref a] ∧ SqT X.K H a (ns.map V.int) ∧ Q (.int ns.sum) H) := by
  intro pins s σ H vs us Q I r h
  obtain ⟨a, ns, rfl, hs, q⟩ := h
  obtain ⟨its, rv, hl, _⟩ := I.tuple hs
  rw [Vals.ref1 r]
  have hi : IntsAre its ns := rv.ints
  obtain ⟨xs, hx⟩ := hi.allInts.items
  have hn : numsOf its.toArray.toList = ns := by rw [show its.toArray.toList = its from rfl, hi.numsOf]
  have hl : s.heap.IsTuple a its.toArray := hl
  rw [hx] at hl hn
  rw [nums_intItems] at hn
  refine PySem.W.ktm_sumG (I.ok.hd hc) hl fun h' tk t' hk => ?_
  rw [preSum_eq, List.take_of_length_le (by simp), hn]
  exact ⟨.int _, H, I.kept hk, ⟨_, rfl⟩, q⟩
theorem ev_sumT {ns : List Int} (hcalm : X.calm = true) (hm : X.mg "sum" = none) (hv : bootBuiltins "sum" = some (.builtin "sum")) (ha : EV X B ρ e (.tuple (ns.map PyData.int))) (hg : Gl X "sum" := by rfl) (he : starEach [e] X.env = [(false, eval e X.env)] := by rfl) : EV X B ρ (.Call (.Name "sum" p) [e] [] pos) (.int ns.sum) :=
  ev_callB1 (cr_sumT hcalm) hm hv ha (fun v G H Q s pv k => by
    obtain ⟨q, vs, rfl, h1, gq, z1, d1⟩ := Dq.tuple s pv
    have e := DqAll.ints d1
    subst e
    exact ⟨q, ns, rfl, h1, k _ H G (Grow.refl s) (.int _)⟩) hg (by decide) (by decide) he
end
end UP

/-! sorted(set(..)) of ints. -/
namespace UP
open PySem PySem.Spec PyProof.Rows L2
abbrev nilSet (w : World) : Obj := { cls := .type "set", dict := none, data := .set #[] 0 (.fresh 0 0 (!w.params.followText "set-order")) }
theorem setOfL {P : Program} {w : World} {A : Around} {E : Value → Shared → Prop} {s : Shared} {l : Addr} {its : Array Value} (ns : List Int) {Q : Value → Shared → Prop} (hh : A.handled = none) (hl : s.heap.IsList l its) (hit : IntsAre its.toList ns) (hb : ns.length + 1 < scanBound)
    (h : ∀ (h' : Heap) (tk c : Nat), SetR w h' s.heap.objs.size (fun j => decide (j ∈ ns)) c → c ≤ ns.length → (∀ b o, s.heap.get? b = some o → h'.get? b = some o) → Q (.ref s.heap.objs.size) { s with heap := h', toks := tk }) :
    wpAny (model P w) A (call (.type "set") [.ref l]) Q E s := by
  have hz : its.size = ns.length := (Array.length_toList (xs := its)).symm.trans (IntsAre.length hit)
  obtain ⟨c0, t0, mro0⟩ := F.called_set.mro
  have made0 := F.called_set.made
  have sub0 := F.called_set.sub
  refine wpAny_call (codeAny_of_tree ?_)
  show wpAny _ _ (callAny (.type "set") _) _ _ _
  refine wpAny_pure ⟨Code.quiet_builtin _ (by decide +kernel), codeAny_builtin F.entry_type_call ?_⟩
  rw [Around.under_plain (weight_type_call_type "set" [.ref l] []) rfl]
  have x1 := F.called_set.notType
  have x2 := F.called_set.canCreate
  have x3 := F.typeCall_set_1 (.ref l)
  repeat (any_goals (first | assumption | wp_step))
  refine codeAny_mono (code_set_led1 (.ref l) (E := E) (Q₁ := fun ob z => ob = .ref s.heap.objs.size ∧ z = { s with heap := s.heap.push (nilSet w) }) ⟨rfl, rfl⟩) fun r z hr => ?_
  cases r with
  | error _ => exact hr
  | ok fl =>
    cases fl with
    | ret ob =>
      obtain ⟨rfl, rfl⟩ := hr
      have hS : (s.heap.push (nilSet w)).get? s.heap.objs.size = some (nilSet w) := Heap.get?_push_size _ rfl
      have hT : Shared.TypeIs { s with heap := s.heap.push (nilSet w) } (.ref s.heap.objs.size) "set" := ⟨_, hS, rfl⟩
      have y1 := F.called_set.init.lookup
      have y2 := F.called_set.init.bind (.ref s.heap.objs.size)
      repeat (any_goals (first | assumption | wp_step))
      refine codeAny_mono (codeAny_call_builtin (R := wants (fun r z => r = .none ∧ ∃ h' tk c, z = { s with heap := h', toks := tk } ∧ SetR w h' s.heap.objs.size (fun j => decide (j ∈ ns)) c ∧ c ≤ ns.length ∧ (∀ b o, s.heap.get? b = some o → h'.get? b = some o)) E) F.called_set.init.plain F.entry_set_init (check_set_init_1 hT ?_)) fun r2 z2 hr2 => ?_
      · obtain ⟨⟨oc, od, ot, os⟩, hol, hcl, nl, hdl⟩ := hl
        have hcl : oc = .type "list" := hcl
        have hdl : ot = .seq its nl := hdl
        subst hcl hdl
        have hol' : (s.heap.push (nilSet w)).get? l = some ⟨.type "list", od, .seq its nl, os⟩ := Heap.get?_push_of_some _ hol
        have z1 := F.sub_list_set
        have z2 := F.sub_list_frozenset
        have z3 : (Value.type "list" == Value.type "dict") = false := by decide
        have hl1 : (s.heap.push (nilSet w)).IsList l its := ⟨_, hol', rfl, nl, rfl⟩
        unfold Builtin.«set.__init__» noKeywords Builtin.Frozenset.updateFrom
        generalize hPI : pyIter = PI
        wp_walk
        subst hPI
        refine wpAny_pyIter_list hl1 (wpAny_bind (wpAny_runValue ?_))
        have hlS : l < s.heap.objs.size := Heap.lt_size hol
        have hh3 : A.in1.in1.in1.handled = none := by simp [hh]
        have hneI : l ≠ (s.heap.push (nilSet w)).objs.size := by
          rw [Heap.size_push]
          exact Nat.ne_of_lt (Nat.lt_succ_of_lt hlS)
        have hSf : s.heap.objs.size ∉ [(s.heap.push (nilSet w)).objs.size, l] := fun hm => by
          rw [Heap.size_push] at hm
          rcases List.mem_cons.mp hm with q | q
          · exact absurd q (Nat.ne_of_lt (Nat.lt_succ_self _))
          · exact absurd (List.mem_singleton.mp q) (Nat.ne_of_gt hlS)
        have hval : ∀ (i : Nat) (v : Value), its[i]? = some v → ∃ k t, ns[i]? = some k ∧ v = .int k t := fun i v hv => by
          have hi : i < ns.length := hz ▸ (Array.getElem?_eq_some_iff.mp hv).1
          obtain ⟨t, e⟩ := PyProof.Rows.IntsAre.int_at hit i v (by rw [Array.getElem?_toList]; exact hv)
          exact ⟨ns[i], t, List.getElem?_eq_getElem hi, by rw [e, List.getD_eq_getElem?_getD, List.getElem?_eq_getElem hi] <;> rfl⟩
        refine set_update_ints ((Walks.list hh3 _ l hneI its).toS) s.heap.objs.size hSf ns hz hb hval (its.size - 0) 0 _ (by omega) (Nat.zero_le _) ⟨⟨_, Heap.get?_push_size _ rfl, rfl, rfl⟩, hl1.push _⟩ ⟨0, Nat.le_refl 0, setR_new_at (Heap.get?_push_of_some _ hS)⟩ fun s' c' hm hc' hS' => ?_
        obtain ⟨h', g2, d', tk', os'⟩ := s'
        have eg : g2 = s.gens := hm.gens
        have ed : d' = s.drawn := hm.drawn
        have eo : os' = s.os := hm.os
        subst eg ed eo
        show wpAny _ _ _ _ _ _
        refine wpAny_pure ?_
        show wpAny _ _ (ret Value.none) _ _ _
        rw [hz] at hc'
        refine wpAny_pure ⟨rfl, h', tk', c', rfl, hS', hc', fun b o e => ?_⟩
        have hb0 : b < s.heap.objs.size := Heap.lt_size e
        refine hm.heap b o (fun q => ?_) (Heap.get?_push_of_some _ (Heap.get?_push_of_some _ e))
        rcases List.mem_cons.mp q with q | q
        · exact absurd q (Nat.ne_of_lt hb0)
        · rw [Heap.size_push] at q
          exact absurd (List.mem_singleton.mp q) (Nat.ne_of_lt (Nat.lt_succ_of_lt hb0))
      · cases r2 with
        | error _ => exact hr2
        | ok fl2 =>
          cases fl2 with
          | ret r =>
            obtain ⟨rfl, h', tk, c', rfl, hS', hc', hk'⟩ := hr2
            repeat (any_goals (first | assumption | wp_step))
            exact h _ _ _ hS' hc' hk'
          | _ => exact hr2.elim
    | _ => exact hr.elim
end UP

/-! sorted(list of tuples of ints, of any lengths, any number). -/
namespace UP
open PySem PySem.Spec PyProof.Rows L2 SrtO
theorem lexLt_irr : ∀ xs : List Int, HT.lexLt xs xs = false
  | [] => rfl
  | x :: xs => by rw [HT.lexLt_cons, if_pos rfl]; exact lexLt_irr xs
theorem lexLt_asym : ∀ {xs ys : List Int}, HT.lexLt xs ys = true → HT.lexLt ys xs = false
  | [], [], h => rfl
  | [], _ :: _, _ => rfl
  | _ :: _, [], h => by cases h
  | x :: xs, y :: ys, h => by
    rw [HT.lexLt_cons] at h ⊢
    by_cases e : x = y
    · rw [if_pos e] at h; rw [if_pos e.symm]; exact lexLt_asym h
    · rw [if_neg e] at h; rw [if_neg (Ne.symm e)]
      have := of_decide_eq_true h
      exact decide_eq_false (by omega)
theorem lexLt_ntrans : ∀ {xs ys zs : List Int}, HT.lexLt xs ys = false → HT.lexLt ys zs = false → HT.lexLt xs zs = false
  | [], [], zs, _, h2 => h2
  | [], _ :: _, _, h1, _ => by cases h1
  | _ :: _, [], [], _, _ => rfl
  | _ :: _, [], _ :: _, _, h2 => by cases h2
  | _ :: _, _ :: _, [], _, _ => rfl
  | x :: xs, y :: ys, z :: zs, h1, h2 => by
    rw [HT.lexLt_cons] at h1 h2 ⊢
    by_cases e : x = y
    · rw [if_pos e] at h1
      subst e
      by_cases e2 : x = z
      · rw [if_pos e2] at h2 ⊢; exact lexLt_ntrans h1 h2
      · rw [if_neg e2] at h2 ⊢; exact h2
    · rw [if_neg e] at h1
      have h1 := of_decide_eq_false h1
      by_cases e2 : y = z
      · rw [if_pos e2] at h2
        subst e2
        rw [if_neg e]
        exact decide_eq_false h1
      · rw [if_neg e2] at h2
        have h2 := of_decide_eq_false h2
        by_cases e3 : x = z
        · omega
        · rw [if_neg e3]
          exact decide_eq_false (by omega)
theorem lexLt_tri : ∀ {xs ys : List Int}, HT.lexLt xs ys = false → HT.lexLt ys xs = false → xs = ys
  | [], [], _, _ => rfl
  | [], _ :: _, h, _ => by cases h
  | _ :: _, [], _, h => by cases h
  | x :: xs, y :: ys, h1, h2 => by
    rw [HT.lexLt_cons] at h1 h2
    by_cases e : x = y
    · rw [if_pos e] at h1; rw [if_pos e.symm] at h2
      rw [e, lexLt_tri h1 h2]
    · rw [if_neg e] at h1; rw [if_neg (Ne.symm e)] at h2
      have h1 := of_decide_eq_false h1
      have h2 := of_decide_eq_false h2
      omega
theorem swo_lexT {α : Type} (k : α → List Int) : Swo fun v u => HT.lexLt (k v) (k u) := ⟨fun _ _ h => lexLt_asym h, fun _ _ _ h1 h2 => lexLt_ntrans h2 h1⟩
section
variable {prog : Program} {w : World} {A : Around} {E : Value → Shared → Prop} {s : Shared}
theorem lexKat {b fin : Bool} {Q : Bool → Shared → Prop} {xs ys : List Value} {ns ms : List Int} (i : Nat) (hx : IntsAre xs ns) (hy : IntsAre ys ms) (hf : fin = decide (ns.length < ms.length)) (h : Q (HT.lexLt ns ms) s) : PySem.W.KatLex prog w A b fin Q (xs.zip ys) i s := by
  induction hx generalizing ys ms i with
  | nil =>
    cases hy with
    | nil => rw [show fin = false by rw [hf]; rfl]; exact h
    | cons _ _ _ => rw [show fin = true by rw [hf]; simp]; exact h
  | cons n t hr ih =>
    cases hy with
    | nil => rw [show fin = false by rw [hf]; simp]; exact h
    | cons n' t' hr' =>
      rw [HT.lexLt_cons] at h
      refine PySem.W.kat_cons (SeqAt.EqAt.int_int _ _ _ _ prog w _ _ ?_)
      refine PySem.W.kat_go (fun e1 => ?_) (fun e1 => ?_)
      · have ex : n = n' := by simpa using e1
        rw [if_pos ex] at h
        exact PySem.W.kat_yes (ih (i + 1) hr' (by rw [hf]; simp) h)
      · have ex : ¬ n = n' := by simpa using e1
        rw [if_neg ex] at h
        exact PySem.W.kat_no (TS.oneLt_ints _ h)
/-- the first of a tuple's ints -/
def FstOf (ns : List Int) (f : Option Value) : Prop := match ns with
  | [] => f = none
  | n :: _ => ∃ t, f = some (.int n t)
theorem firstsOf {M : Model} {k : Value → List Int} : ∀ (vs : List Value) {Q : List (Option Value) → Shared → Prop}, (∀ v ∈ vs, TS.TupInts s.heap v (k v)) → (∀ fs, Paired (fun v f => FstOf (k v) f) vs fs → Q fs s) → wpAny M A (vs.mapM firstOfTuple') Q E s
  | [], Q, _, h => by rw [List.mapM_nil]; exact wpAny_pure (h [] .nil)
  | v :: vs, Q, t, h => by
    obtain ⟨a, xs, e, ⟨o, ho, hc, n, hd⟩, hi⟩ := t v List.mem_cons_self
    rw [List.mapM_cons]
    refine wpAny_bind ?_
    rw [e, PySem.W.kas_first_eq]
    refine wpAny_bind (PySem.W.Looks.here (show PySem.W.Looks M s.heap (typeOf (.ref a)) o.cls from (PySem.W.Looks.ld ho).andThen .now) ?_)
    rw [hc, if_neg (by first | decide | simp)]
    refine wpAny_bind (listItems_at ho hd (wpAny_pure ?_))
    refine wpAny_bind (firstsOf vs (Q := fun bs s' => wpAny M A (pure (xs[0]? :: bs)) Q E s') (fun u hu => t u (List.mem_cons_of_mem _ hu)) fun fs p => wpAny_pure (h _ (.cons ?_ p)))
    have e0 : xs[0]? = xs.toList[0]? := (Array.getElem?_toList).symm
    show FstOf (k v) xs[0]?
    rw [e0]
    generalize k v = kv at hi
    generalize xs.toList = xl at hi
    cases hi with
    | nil => rfl
    | cons n t r => exact ⟨t, rfl⟩
theorem typeT {M : Model} {v : Value} {ns : List Int} (t : TS.TupInts s.heap v ns) : PySem.W.Looks M s.heap (typeOf v) (.type "tuple") := by
  obtain ⟨a, xs, e, ⟨o, ho, hc, n, hd⟩, hi⟩ := t
  rw [e, ← hc]
  exact (PySem.W.Looks.ld ho).andThen .now
theorem pairedAll {k : Value → List Int} : ∀ {vs : List Value} {fs : List (Option Value)}, Paired (fun v f => FstOf (k v) f) vs fs → (fs.all (·.isSome) = vs.all fun v => !(k v).isEmpty)
  | _, _, .nil => rfl
  | v :: vs, f :: fs, .cons h r => by
    rw [List.all_cons, List.all_cons, pairedAll r]
    congr 1
    unfold FstOf at h
    split at h
    · rename_i e; rw [h, e]; rfl
    · rename_i e; obtain ⟨t, h⟩ := h; rw [h, e]; rfl
theorem katTups {h : Heap} {k : Value → List Int} : ∀ (vs : List Value), (∀ v ∈ vs, TS.TupInts h v (k v)) → (∀ v ∈ vs, k v ≠ []) → ∃ fs, PySem.W.KatTups h vs fs ∧ fs.length = vs.length ∧ ∀ f ∈ fs, ∃ n t, f = Value.int n t
  | [], _, _ => ⟨[], PySem.W.KatTups.nil, rfl, fun f hf => by cases hf⟩
  | v :: vs, t, ne => by
    obtain ⟨fs, h1, h2, h3⟩ := katTups vs (fun u hu => t u (List.mem_cons_of_mem _ hu)) (fun u hu => ne u (List.mem_cons_of_mem _ hu))
    obtain ⟨a, xs, e, ⟨o, ho, hc, n, hd⟩, hi⟩ := t v List.mem_cons_self
    have hn := ne v List.mem_cons_self
    generalize k v = kv at hi hn
    have e0 : xs[0]? = xs.toList[0]? := (Array.getElem?_toList).symm
    generalize hxl : xs.toList = xl at hi e0
    cases hi with
    | nil => exact absurd rfl hn
    | cons m tt r =>
      refine ⟨.int m tt :: fs, ?_, by rw [List.length_cons, List.length_cons, h2], fun f hf => ?_⟩
      · rw [e]
        exact PySem.W.KatTups.cons ho hc hd e0 h1
      · rcases List.mem_cons.mp hf with z | z
        · exact ⟨m, tt, z⟩
        · exact h3 f z
/-- how any two compare, by the kind that is found -/
theorem sortableT {a : Addr} {vs : List Value} {k : Value → List Int} (hu : A.units < cLine) (h2 : 2 ≤ vs.length) (ht : ∀ v ∈ vs, TS.TupInts s.heap v (k v)) (ha : ∀ o, s.heap.get? a = some o → o.cls ≠ .type "tuple") : SortableO prog w A s a vs fun v u => HT.lexLt (k v) (k u) := by
  intro h' keep
  have ht' : ∀ v ∈ vs, TS.TupInts h' v (k v) := fun v hm => (ht v hm).keeps fun b o e c => keep b o (fun z => by subst z; exact ha o e c) e
  have gen : ∀ p q : Keyed, p.1 ∈ vs → q.1 ∈ vs → ∀ Q : Value → Shared → Prop, Q (.bool (HT.lexLt (k p.1) (k q.1))) { s with heap := h' } → wpAny (model prog w) A (compareOp .Lt p.1 q.1) Q (fun _ _ => False) { s with heap := h' } := by
    intro p q hp hq Q h
    obtain ⟨a1, xs1, e1, t1, i1⟩ := ht' _ hp
    obtain ⟨a2, xs2, e2, t2, i2⟩ := ht' _ hq
    rw [e1, e2]
    exact HT.lt_tupInts (s := { s with heap := h' }) t1 t2 i1 i2 hu h
  by_cases hall : (vs.all fun v => !(k v).isEmpty) = true
  · refine ⟨tuples' true, fun Q E hq => ?_, fun p q hp hq => ?_⟩
    · obtain ⟨fs, h1, h3, h4⟩ := katTups vs ht' fun v hv z => by
        have := List.all_eq_true.mp hall v hv
        rw [z] at this
        cases this
      refine PySem.W.kat_kind (T := .type "int") (s := { s with heap := h' }) h1 (by omega) (fun f hm => ?_) (by rfl) ?_
      · obtain ⟨x, t, rfl⟩ := h4 f hm
        exact PySem.W.Looks.now
      · rw [show (Value.type "int" != Value.type "tuple") = true by decide +kernel]
        exact hq
    · obtain ⟨a1, xs1, e1, ⟨o1, ho1, hc1, n1, hd1⟩, i1⟩ := ht' _ hp
      obtain ⟨a2, xs2, e2, ⟨o2, ho2, hc2, n2, hd2⟩, i2⟩ := ht' _ hq
      show wpAny (model prog w) A (keyLt' (tuples' true) p.1 q.1) (fun r s' => s' = { s with heap := h' } ∧ r = HT.lexLt (k p.1) (k q.1)) (fun _ _ => False) { s with heap := h' }
      rw [e1, e2] at *
      refine PySem.W.kat_lt ho1 hd1 ho2 hd2 (lexKat 0 i1 i2 ?_ ⟨rfl, rfl⟩)
      rw [← IntsAre.length i1, ← IntsAre.length i2, Array.length_toList, Array.length_toList]
  · obtain ⟨v1, vr, rfl⟩ : ∃ v1 vr, vs = v1 :: vr := by
      cases vs with
      | nil => exact absurd h2 (by decide)
      | cons v1 vr => exact ⟨v1, vr, rfl⟩
    by_cases he : k v1 = []
    · -- the first one is empty: one type
      refine ⟨oneType', fun Q E hq => ?_, fun p q hp hq => ?_⟩
      · rw [PyProof.Rows.kat_kind_eq, List.mapM_toArray, map_eq_pure_bind]
        refine wpAny_bind (wpAny_bind (firstsOf (s := { s with heap := h' }) (k := k) (v1 :: vr) ht' fun fs pr => wpAny_pure ?_))
        have e1 : (fs.toArray.all fun x => x.isSome) = false := by
          have := pairedAll pr
          rw [List.all_toArray, this]
          exact Bool.eq_false_iff.mpr hall
        have e2 : (fs.toArray[0]?.bind id).isSome = false := by
          cases pr with
          | cons h r =>
            unfold FstOf at h
            rw [he] at h
            rw [h]; rfl
        rw [if_neg (by rw [e1]; exact Bool.false_ne_true)]
        rw [if_neg (by rw [e2]; exact Bool.false_ne_true)]
        rw [oneTypeOnly'_eq, List.mapM_toArray, map_eq_pure_bind]
        refine wpAny_bind (wpAny_bind (wpAny_bind (PySem.W.kas_mapM (r := Value.type "tuple") _ (fun v hv Q' hq' => (typeT (s := { s with heap := h' }) (ht' v hv)).here hq') (wpAny_pure ?_))))
        have hall2 : ((List.map (fun _ => Value.type "tuple") (v1 :: vr)).toArray.all fun x => x == Value.type "tuple") = true := by
          simp only [List.all_toArray, List.all_map, List.all_eq_true]
          intro _ _
          show (Value.type "tuple" == Value.type "tuple") = true
          decide +kernel
        have h0 : (List.map (fun _ => Value.type "tuple") (v1 :: vr)).toArray[0]? = some (Value.type "tuple") := by simp
        rw [h0]
        simp only [hall2, if_true]
        exact wpAny_pure (wpAny_pure hq)
      · show wpAny (model prog w) A (keyLt' oneType' p.1 q.1) (fun r s' => s' = { s with heap := h' } ∧ r = HT.lexLt (k p.1) (k q.1)) (fun _ _ => False) { s with heap := h' }
        obtain ⟨a1, xs1, e1, ⟨⟨c1, d1, t1, l1⟩, ho1, hc1, n1, hd1⟩, i1⟩ := ht' _ hp
        obtain ⟨a2, xs2, e2, ⟨⟨c2, d2, t2, l2⟩, ho2, hc2, n2, hd2⟩, i2⟩ := ht' _ hq
        have hc1 : c1 = .type "tuple" := hc1
        have hd1 : t1 = .seq xs1 n1 := hd1
        have hc2 : c2 = .type "tuple" := hc2
        have hd2 : t2 = .seq xs2 n2 := hd2
        subst hc1 hd1 hc2 hd2
        rw [e1, e2, keyLt'_oneType, oneLt'_eq]
        simp only [if_true]
        refine wpAny_bind (wpAny_cRoomFor hu ?_)
        refine wpAny_bind (wpAny_callSpecialIfBound?_slot (name := Str.ofString "__lt__") (s := { s with heap := h' }) ⟨_, ho1, rfl⟩ PySem.F.slot_tuple_lt (call_meets PySem.F.slot_tuple_lt ⟨_, ho1, rfl⟩ PySem.F.entry_tuple_lt (PySem.F.args_tuple_lt_2 _ _) (HT.tuple_lt_ints a1 a2 xs1 xs2 n1 n2 d1 d2 l1 l2 _ _ i1 i2) ⟨ho1, ho2, ?_⟩))
        exact wpAny_truthy_bool ⟨rfl, by rw [← e1, ← e2]⟩
    · refine ⟨general', fun Q E hq => ?_, fun p q hp hq => ?_⟩
      · rw [PyProof.Rows.kat_kind_eq, List.mapM_toArray, map_eq_pure_bind]
        refine wpAny_bind (wpAny_bind (firstsOf (s := { s with heap := h' }) (k := k) (v1 :: vr) ht' fun fs pr => wpAny_pure ?_))
        have e1 : (fs.toArray.all fun x => x.isSome) = false := by
          have := pairedAll pr
          rw [List.all_toArray, this]
          exact Bool.eq_false_iff.mpr hall
        have e2 : (fs.toArray[0]?.bind id).isSome = true := by
          cases pr with
          | cons h r =>
            unfold FstOf at h
            split at h
            · rename_i z; exact absurd z he
            · obtain ⟨t, h⟩ := h
              rw [h]; rfl
        rw [if_neg (by rw [e1]; exact Bool.false_ne_true)]
        rw [if_pos e2]
        exact wpAny_pure hq
      · show wpAny (model prog w) A (oneLt' false p.1 q.1) (fun r s' => s' = { s with heap := h' } ∧ r = HT.lexLt (k p.1) (k q.1)) (fun _ _ => False) { s with heap := h' }
        exact PySem.W.kat_one _ _ (gen p q hp hq _ ⟨rfl, rfl⟩)
theorem sortedTups {l : Addr} {vs : List Value} {k : Value → List Int} {Q : Value → Shared → Prop} (hu : A.units + 2 < cLine) (hl : s.heap.IsList l vs.toArray) (hz : vs.length ≤ sizeLine) (ht : ∀ v ∈ vs, TS.TupInts s.heap v (k v))
    (h : ∀ (h' : Heap) (d : Addr) (out : List Value), Srtd (fun v u => HT.lexLt (k v) (k u)) out → out.Perm vs → (∀ b o, s.heap.get? b = some o → h'.get? b = some o) → s.heap.objs.size ≤ d → (∃ n, h'.get? d = some (seqObj "list" out.toArray n)) → Q (.ref d) { s with heap := h' }) :
    wpAny (model prog w) A (call (.builtin "sorted") [.ref l]) Q E s := by
  refine sorted_ord (swo_lexT k) hl hz (fun h2 h1 a ha kk => ?_) fun out hs hb => ?_
  · refine sortableT (s := { s with heap := h1 }) (by show A.units + 1 + 1 < cLine; omega) h2 (fun v hm => (ht v hm).keeps fun b o e _ => (kk b o e).2) fun o e => ?_
    have e' : some o = some (seqObj "list" vs.toArray 0) := e.symm.trans ha
    cases e'
    intro c
    exact absurd (Value.type.inj c) (by decide)
  · exact h _ _ out hs hb.perm (fun b o e => sortedAll_old e) (Nat.le_succ _) (sortedAll_at s.heap vs out.toArray)
end
end UP

namespace UP
open PySem PySem.Spec PyProof.Rows L2
/-! ### the sorted list of the members of a list of ints -/
def insS (n : Int) : List Int → List Int
  | [] => [n]
  | m :: r => if n < m then n :: m :: r else if n = m then m :: r else m :: insS n r
def sortS (ns : List Int) : List Int := ns.foldr insS []
theorem mem_insS {n k : Int} : ∀ {l : List Int}, k ∈ insS n l ↔ k = n ∨ k ∈ l
  | [] => by simp [insS]
  | m :: r => by
    unfold insS
    split
    · simp
    · split
      · rename_i h; subst h; simp
      · rw [List.mem_cons, mem_insS, List.mem_cons]
        constructor
        · rintro (h | h | h)
          · exact .inr (.inl h)
          · exact .inl h
          · exact .inr (.inr h)
        · rintro (h | h | h)
          · exact .inr (.inl h)
          · exact .inl h
          · exact .inr (.inr h)
theorem insS_sorted {n : Int} : ∀ {l : List Int}, l.Pairwise (· < ·) → (insS n l).Pairwise (· < ·)
  | [], _ => List.pairwise_singleton _ _
  | m :: r, h => by
    have h' := List.pairwise_cons.mp h
    unfold insS
    split
    · rename_i hlt
      refine List.pairwise_cons.mpr ⟨fun x hx => ?_, h⟩
      rcases List.mem_cons.mp hx with e | e
      · omega
      · have := h'.1 x e; omega
    · split
      · exact h
      · refine List.pairwise_cons.mpr ⟨fun x hx => ?_, insS_sorted h'.2⟩
        rcases mem_insS.mp hx with e | e
        · omega
        · exact h'.1 x e
theorem mem_sortS {k : Int} : ∀ {ns : List Int}, k ∈ sortS ns ↔ k ∈ ns
  | [] => by simp [sortS]
  | n :: ns => by
    show k ∈ insS n (sortS ns) ↔ _
    rw [mem_insS, mem_sortS, List.mem_cons]
theorem sortS_sorted : ∀ ns : List Int, (sortS ns).Pairwise (· < ·)
  | [] => List.Pairwise.nil
  | n :: ns => insS_sorted (sortS_sorted ns)
/-- two strictly rising lists with the same members are one -/
theorem rising_uniq : ∀ {l m : List Int}, l.Pairwise (· < ·) → m.Pairwise (· < ·) → (∀ k, k ∈ l ↔ k ∈ m) → l = m
  | [], [], _, _, _ => rfl
  | [], y :: m, _, _, h => by have := (h y).mpr List.mem_cons_self; cases this
  | x :: l, [], _, _, h => by have := (h x).mp List.mem_cons_self; cases this
  | x :: l, y :: m, hl, hm, h => by
    have hl' := List.pairwise_cons.mp hl
    have hm' := List.pairwise_cons.mp hm
    have e : x = y := by
      rcases List.mem_cons.mp ((h x).mp List.mem_cons_self) with e | e
      · exact e
      · rcases List.mem_cons.mp ((h y).mpr List.mem_cons_self) with e' | e'
        · exact e'.symm
        · have a := hm'.1 x e; have b := hl'.1 y e'; omega
    subst e
    congr 1
    refine rising_uniq hl'.2 hm'.2 fun k => ⟨fun hk => ?_, fun hk => ?_⟩
    · rcases List.mem_cons.mp ((h k).mp (List.mem_cons_of_mem _ hk)) with e | e
      · have := hl'.1 k hk; omega
      · exact e
    · rcases List.mem_cons.mp ((h k).mpr (List.mem_cons_of_mem _ hk)) with e | e
      · have := hm'.1 k hk; omega
      · exact e
/-! ### the sorted list of lists of ints -/
def insT (n : List Int) : List (List Int) → List (List Int)
  | [] => [n]
  | m :: r => if HT.lexLt m n then m :: insT n r else n :: m :: r
def sortT (xs : List (List Int)) : List (List Int) := xs.foldr insT []
theorem insT_perm {n : List Int} : ∀ {l : List (List Int)}, (insT n l).Perm (n :: l)
  | [] => List.Perm.refl _
  | m :: r => by
    unfold insT
    split
    · exact ((insT_perm (l := r)).cons m).trans (List.Perm.swap n m r)
    · exact List.Perm.refl _
theorem sortT_perm : ∀ xs : List (List Int), (sortT xs).Perm xs
  | [] => List.Perm.refl _
  | x :: xs => (insT_perm (l := sortT xs)).trans ((sortT_perm xs).cons x)
def SrtT (l : List (List Int)) : Prop := l.Pairwise fun x y => HT.lexLt y x = false
theorem insT_sorted {n : List Int} : ∀ {l : List (List Int)}, SrtT l → SrtT (insT n l)
  | [], _ => List.pairwise_singleton _ _
  | m :: r, h => by
    have h' := List.pairwise_cons.mp h
    unfold insT
    split
    · rename_i hlt
      refine List.pairwise_cons.mpr ⟨fun x hx => ?_, insT_sorted h'.2⟩
      rcases List.mem_cons.mp (insT_perm.mem_iff.mp hx) with e | e
      · rw [e]; exact lexLt_asym hlt
      · exact h'.1 x e
    · rename_i hlt
      have hlt : HT.lexLt m n = false := Bool.eq_false_iff.mpr hlt
      refine List.pairwise_cons.mpr ⟨fun x hx => ?_, h⟩
      rcases List.mem_cons.mp hx with e | e
      · rw [e]; exact hlt
      · exact lexLt_ntrans (h'.1 x e) hlt
theorem sortT_sorted : ∀ xs : List (List Int), SrtT (sortT xs)
  | [] => List.Pairwise.nil
  | x :: xs => insT_sorted (sortT_sorted xs)
theorem srtT_uniq : ∀ {l m : List (List Int)}, SrtT l → SrtT m → l.Perm m → l = m
  | [], m, _, _, h => (List.Perm.eq_nil h.symm).symm
  | x :: l, [], _, _, h => absurd h.length_eq (by simp)
  | x :: l, y :: m, hl, hm, h => by
    have hl' := List.pairwise_cons.mp hl
    have hm' := List.pairwise_cons.mp hm
    have h1 : HT.lexLt y x = false := by
      rcases List.mem_cons.mp (h.mem_iff.mpr (List.mem_cons_self (a := y) (l := m))) with e | e
      · rw [e]; exact lexLt_irr x
      · exact hl'.1 y e
    have h2 : HT.lexLt x y = false := by
      rcases List.mem_cons.mp (h.mem_iff.mp (List.mem_cons_self (a := x) (l := l))) with e | e
      · rw [e]; exact lexLt_irr y
      · exact hm'.1 x e
    have e := lexLt_tri h2 h1
    subst e
    rw [srtT_uniq hl'.2 hm'.2 h.cons_inv]
abbrev encI (ns : List Int) : PyData := .tuple (ns.map PyData.int)
section
variable {X : Cx} {B : Bs} {ρ : DEnv} {e : Expr} {pos p p2 pos2 : Pos}
/-! ### set(..), sorted(set(..)) of ints -/
theorem cr_setI (hc : X.calm = true) : CallR X (.type "set") (fun xs H Q => ∃ (l : Addr) (ns : List Int), xs = [V.ref l] ∧ (SqL X.K H l (ns.map V.int) ∨ SqT X.K H l (ns.map V.int)) ∧ ns.length < 1000 ∧ ∀ a c, H a = none → c ≤ ns.length → Q (.ref a) (upd H a (SetO X.w a (fun j => decide (j ∈ ns)) c))) := by
  intro pins s σ H vs us Q I r h
  obtain ⟨l, ns, rfl, hs, hz, q⟩ := h
  rw [Vals.ref1 r]
  have hb : ns.length + 1 < scanBound := by unfold scanBound; omega
  have hn : H s.heap.objs.size = none := I.hok.fresh (Nat.le_refl _)
  rcases hs with hs | hs
  · obtain ⟨its, rv, pl, _⟩ := I.list hs
    refine setOfL (P := X.prog) (w := X.w) ns (I.ok.hd hc) pl.isList (by simpa using rv.ints) hb fun h' tk c R hcl k => ?_
    exact ⟨.ref s.heap.objs.size, _, I.laid (t' := tk) k (Nat.le_refl _) (setO_new R), rfl, q _ c hn hcl⟩
  · obtain ⟨its, rv, pl, _⟩ := I.tuple hs
    refine call_set_tupI (P := X.prog) (w := X.w) ns (I.ok.hd hc) pl (by simpa using rv.ints) hb fun h' tk c R hcl k => ?_
    exact ⟨.ref s.heap.objs.size, _, I.laid (t' := tk) k (Nat.le_refl _) (setO_new R), rfl, q _ c hn hcl⟩
theorem ev_sortedSet {ns : List Int} (hc : X.calm = true) (hm : X.mg "sorted" = none) (hv : bootBuiltins "sorted" = some (.builtin "sorted")) (hm2 : X.mg "set" = none) (hv2 : bootBuiltins "set" = some (.type "set")) (ha : EVP X B ρ e (isSq X.K (ns.map PyData.int))) (hz : ns.length < 64) (hg : Gl X "sorted" := by rfl) (hg2 : Gl X "set" := by rfl)
    (he : starEach [e] X.env = [(false, eval e X.env)] := by rfl) (he2 : starEach [.Call (.Name "set" p2) [e] [] pos2] X.env = [(false, eval (.Call (.Name "set" p2) [e] [] pos2) X.env)] := by rfl) : EVf X B ρ (.Call (.Name "sorted" p) [.Call (.Name "set" p2) [e] [] pos2] [] pos) ((sortS ns).map PyData.int) := by
  refine PE.imp (pe_callB (cr_sortedSet hc) hg hm hv (pa_cons (pe_callTy (cr_setI hc) hg2 hm2 hv2 (pa_cons ha pa_nil he) (by decide) (by decide) he rfl) pa_nil he2) (by decide) (by decide) he2 rfl) fun σ H Q ⟨G, en, k⟩ => ⟨G, en, fun v H1 G1 g1 p1 => ?_⟩
  obtain ⟨q, vs, rfl, hq, z, dv⟩ := p1.get g1.sub
  have ev := DqAll.ints dv
  subst ev
  refine ⟨q, ns, rfl, hq, by omega, fun a c hn hcl => ⟨a, _, c, rfl, upd_same, by omega, fun ms r hrise hmem hlen hr => ?_⟩⟩
  have hra : r ≠ a := fun z => by rw [z, upd_same] at hr; cases hr
  have hr1 : H1 r = none := by rw [upd_ne hra] at hr; exact hr
  have e1 : ms = sortS ns := rising_uniq hrise (sortS_sorted ns) fun j => by rw [hmem j, mem_sortS]; simp
  subst e1
  have g2 : Grow G1 H1 G1 (upd (upd H1 a (SetO X.w a (fun j => decide (j ∈ ns)) c)) r (.lst ((sortS ns).map V.int))) := by
    refine ⟨Same.refl _, fun b o h => ?_, fun b o h => ?_, fun _ _ h => h, fun t => (t.updH fun xs z => nomatch (show HO.ext _ = HO.tup xs from z)).updH fun _ z => nomatch z⟩
    · rw [upd_ne (ne_of_none h hr1), upd_ne (ne_of_none h hn)]; exact h
    · have h := g1.sub _ _ h
      rw [upd_ne (ne_of_none h hr1), upd_ne (ne_of_none h hn)]; exact h
  refine k r _ _ G1 (g1.trans g2) (g1.hh.free hr1) (g1.sub.free hr1) upd_same ?_ (DqAll.of_ints _)
  rw [List.length_map, hlen]
  exact Nat.le_of_lt (small1000 (by omega))
/-! ### sorted(list of tuples of ints) -/
theorem cr_sortedTL (hu : X.A.units + 2 < cLine) : CallR X (.builtin "sorted") (fun vs H Q => ∃ (a : Addr) (xs : List V) (k : V → List Int), vs = [V.ref a] ∧ SqL X.K H a xs ∧ (∀ x ∈ xs, ∃ t, x = V.ref t ∧ SqT X.K H t ((k x).map V.int)) ∧
    ∀ ys p, ys.Pairwise (fun x y => HT.lexLt (k y) (k x) = false) → ys.Perm xs → H p = none → Q (.ref p) (upd H p (.lst ys))) := by
  intro pins s σ H vs us Q I r h
  obtain ⟨a, xs, k, rfl, hs, hx, q⟩ := h
  obtain ⟨its, rv, hl, hz⟩ := I.list hs
  rw [Vals.ref1 r]
  obtain ⟨e1, e2⟩ := refs_back rv fun x m => by
    obtain ⟨t, e, _⟩ := hx x m
    exact ⟨t, e⟩
  refine sortedTups (k := fun u => k (backV u)) hu hl.isList (by rw [← rv.length]; exact hz) (fun v hv => ?_) fun h' d out h1 h2 kp hd hn => ?_
  · obtain ⟨t, rfl⟩ := e2 v hv
    have hm : V.ref t ∈ xs := by rw [e1]; exact List.mem_map.mpr ⟨_, hv, rfl⟩
    obtain ⟨t', e, ht⟩ := hx _ hm
    cases e
    exact tupI_raw I ht
  · have h3 : ∀ u ∈ out, ∃ a, u = Value.ref a := fun u hu => e2 u (h2.mem_iff.mp hu)
    obtain ⟨n, hn⟩ := hn
    have hp : (out.map backV).Perm xs := by rw [e1]; exact h2.map backV
    refine ⟨.ref d, upd H d (.lst (out.map backV)), I.laid (t' := s.toks) kp hd ⟨by rw [hp.length_eq]; exact hz, out, n, vals_back h3, hn⟩, rfl, q _ d ?_ hp (I.hok.fresh hd)⟩
    exact List.pairwise_map.mpr h1
def tupKey (ns : List Int) : PyData → List Int
  | .tuple ds => ds.map fun d => match d with | .int i => i | _ => 0
  | _ => ns
theorem DqAll.mem {K : PySem.W.Frag} {G : Hp} : ∀ {vs : List V} {ds : List PyData} {v : V}, DqAll K G vs ds → v ∈ vs → ∃ d, d ∈ ds ∧ Dq K G v d
  | _, _, _, .nil, h => by cases h
  | _, _, _, .cons h t, hm => by
    rcases List.mem_cons.mp hm with e | e
    · subst e; exact ⟨_, List.mem_cons_self, h⟩
    · obtain ⟨d, h1, h2⟩ := DqAll.mem t e
      exact ⟨d, List.mem_cons_of_mem _ h1, h2⟩
theorem encI_inj {G : Hp} {K : PySem.W.Frag} {v : V} {ns ms : List Int} (h : Dq K G v (encI ns)) (h' : Dq K G v (encI ms)) : ns = ms := by
  cases h with
  | tup a1 a2 a3 =>
    cases h' with
    | tup b1 b2 b3 =>
      rw [a1] at b1
      cases b1
      have e := (DqAll.ints a3).symm.trans (DqAll.ints b3)
      have := congrArg (List.map fun v : V => match v with | .int i => i | _ => 0) e
      simp only [List.map_map] at this
      have f : ((fun v : V => match v with | .int i => i | _ => 0) ∘ V.int) = id := rfl
      rw [f, List.map_id, List.map_id] at this
      exact this
open Classical in
theorem ev_sortedL {xs : List (List Int)} (hu : X.A.units + 65 < cLine) (hm : X.mg "sorted" = none) (hv : bootBuiltins "sorted" = some (.builtin "sorted")) (ha : EVo X B ρ e (.list (xs.map encI))) (hg : Gl X "sorted" := by rfl) (he : starEach [e] X.env = [(false, eval e X.env)] := by rfl) : EVf X B ρ (.Call (.Name "sorted" p) [e] [] pos) ((sortT xs).map encI) := by
  refine PE.imp (pe_callB (cr_sortedTL (by omega)) hg hm hv (pa_cons ha pa_nil he) (by decide) (by decide) he rfl) fun σ H Q ⟨G, en, k⟩ => ⟨G, en, fun v H1 G1 g1 p1 => ?_⟩
  obtain ⟨q, vs, rfl, h1, z1, d1⟩ := DqO.list g1.sub p1
  have hkey : ∀ v ∈ vs, ∃ ns, Dq X.K G1 v (encI ns) := fun v hv => by
    obtain ⟨d, hd, dd⟩ := DqAll.mem d1 hv
    obtain ⟨ns, _, rfl⟩ := List.mem_map.mp hd
    exact ⟨ns, dd⟩
  let ky : V → List Int := fun v => if h : ∃ ns, Dq X.K G1 v (encI ns) then h.choose else []
  have kyd : ∀ v ∈ vs, Dq X.K G1 v (encI (ky v)) := fun v hv => by
    have h := hkey v hv
    show Dq X.K G1 v (encI (if h : ∃ ns, Dq X.K G1 v (encI ns) then h.choose else []))
    rw [dif_pos h]
    exact h.choose_spec
  have kys : ∀ (ws : List V) (ys : List (List Int)), DqAll X.K G1 ws (ys.map encI) → (∀ v ∈ ws, v ∈ vs) → ws.map ky = ys := by
    intro ws ys
    induction ys generalizing ws with
    | nil => intro h _; cases h; rfl
    | cons y ys ih =>
      intro h hs
      cases h with
      | cons a b =>
        rename_i w ws'
        rw [List.map_cons, ih ws' b fun v hv => hs v (List.mem_cons_of_mem _ hv)]
        rw [encI_inj (kyd w (hs w List.mem_cons_self)) a]
  have hky : vs.map ky = xs := kys vs xs d1 fun _ h => h
  refine ⟨q, vs, ky, rfl, SqL.of h1, fun x hx => ?_, fun ys r hs hp hr => ?_⟩
  · have := kyd x hx
    obtain ⟨t, ws, rfl, t1, _, _, d2⟩ := Dq.tuple g1.sub this
    have e := DqAll.ints d2
    rw [e] at t1
    exact ⟨t, rfl, t1⟩
  · have e : ys.map ky = sortT xs := by
      refine srtT_uniq (List.pairwise_map.mpr hs) (sortT_sorted xs) ?_
      exact (hp.map ky).trans (by rw [hky]; exact (sortT_perm xs).symm)
    have dd : ∀ ws : List V, (∀ v ∈ ws, v ∈ vs) → DqAll X.K G1 ws ((ws.map ky).map encI) := by
      intro ws
      induction ws with
      | nil => intro _; exact .nil
      | cons w ws ih => intro h; exact .cons (kyd w (h w List.mem_cons_self)) (ih fun v hv => h v (List.mem_cons_of_mem _ hv))
    have d3 := dd ys fun v hv => hp.mem_iff.mp hv
    rw [e] at d3
    exact k r ys _ G1 (g1.trans (Grow.own g1.sub _ hr)) (g1.hh.free hr) (g1.sub.free hr) upd_same (by rw [hp.length_eq]; exact z1) d3
end
end UP

/-! sorted(tuple of ints), tuple(range(n)), list(range(n)), min and max of a list. -/
namespace UP
open PySem PySem.Spec PyProof.Rows L2
section
variable {prog : Program} {w : World} {A : Around} {E : Value → Shared → Prop} {s : Shared}
theorem collectT {t : Addr} {vs : List Value} {Q : List Value → Shared → Prop} (hl : s.heap.IsTuple t vs.toArray) (hz : vs.length ≤ sizeLine)
    (h : Q vs { s with heap := (s.heap.push (seqObj "list" #[] 0)).update s.heap.objs.size (Obj.mapSeq (· ++ vs.toArray)) }) : wpAny (model prog w) A (collect (.ref t)) Q E s := by
  obtain ⟨o, ho, hc, n, hd⟩ := id hl
  unfold collect
  refine wpAny_bind (wpAny_runValue (codeAny_builtin entry_proto_collect' ?_))
  show wpAny _ _ (do again (.builtin "list.__iadd__" ⟨[← newList [], .ref t], []⟩)) _ _ s
  refine wpAny_bind (wpAny_newList (wpAny_pure ⟨Code.quiet_builtin _ (by decide +kernel), codeAny_builtin entry_list_iadd' ?_⟩))
  show wpAny _ _ (Builtin.List.listExtendWith (.ref s.heap.objs.size) (.ref t) (.ref s.heap.objs.size)) _ _ { s with heap := s.heap.push (seqObj "list" #[] 0) }
  unfold Builtin.List.listExtendWith
  have ho2 : (s.heap.push (seqObj "list" #[] 0)).get? t = some o := Heap.get?_push_of_some _ ho
  refine wpAny_bind (wpAny_typeOf (T := "tuple") ⟨o, ho2, hc⟩ ?_)
  rw [if_pos (by rw [show (Value.type "tuple" == Value.type "tuple") = true by rfl]; simp)]
  refine wpAny_bind (listItems_at ho2 hd (wpAny_bind (listItems_at (xs := #[]) (n := 0) (Heap.get?_push_size _ rfl) rfl ?_)))
  rw [if_neg (by simp)]
  refine wpAny_bind (listUpdate_at (xs := #[]) (n := 0) (Heap.get?_push_size _ rfl) rfl ?_ (Nat.zero_le _) (by show (#[] ++ vs.toArray).size ≤ sizeLine + 1; simp only [Array.size_append, List.size_toArray, List.length_nil]; omega))
  refine wpAny_pure ?_
  show wpAny (model prog w) A (do let o ← load s.heap.objs.size; match o.data with | .seq xs _ => pure xs.toList | _ => unsupported "internal:collect") Q E { s with heap := (s.heap.push (seqObj "list" #[] 0)).update s.heap.objs.size (Obj.mapSeq (· ++ vs.toArray)) }
  refine wpAny_bind (wpAny_load (get?_update_seq (Heap.get?_push_size _ rfl) _) ?_)
  show wpAny _ _ (pure ((#[] : Array Value) ++ vs.toArray).toList) Q E _
  rw [show ((#[] : Array Value) ++ vs.toArray).toList = vs by simp]
  exact wpAny_pure h
theorem sortedT1 {t : Addr} {vs : List Value} {ltv : Value → Value → Bool} {Q : Value → Shared → Prop} (O : SrtO.Swo ltv) (hl : s.heap.IsTuple t vs.toArray) (hz : vs.length ≤ sizeLine)
    (hS : 2 ≤ vs.length → ∀ (h1 : Heap) (a : Addr), h1.get? a = some (seqObj "list" vs.toArray 0) → SrtO.SortableO prog w A.in1.in1 { s with heap := h1 } a vs ltv)
    (h : ∀ out : List Value, SrtO.Srtd ltv out → SrtO.Stb ltv out vs → Q (.ref (s.heap.objs.size + 1)) { s with heap := sortedAll s.heap vs out.toArray }) : wpAny (model prog w) A (call (.builtin "sorted") [.ref t]) Q E s := by
  refine Calls.call_function_entry kind_sorted plain_sorted entry_sorted (args_sorted1 _) ?_
  unfold Builtin.«sorted»
  refine wpAny_bind (m := checkCount "sorted" 1 1 _) (wpAny_pure ?_)
  refine wpAny_bind (collectT hl hz (wpAny_bind (wpAny_newList ?_ hz)))
  have hs2 : ((s.heap.push (seqObj "list" #[] 0)).update s.heap.objs.size (Obj.mapSeq (· ++ vs.toArray))).objs.size = s.heap.objs.size + 1 := by
    rw [Heap.size_update, size_push']
  have hoL : (((s.heap.push (seqObj "list" #[] 0)).update s.heap.objs.size (Obj.mapSeq (· ++ vs.toArray))).push (seqObj "list" vs.toArray 0)).get? (s.heap.objs.size + 1) = some (seqObj "list" vs.toArray 0) := hs2 ▸ Heap.get?_push_size _ rfl
  show wpAny _ _ _ _ _ { s with heap := ((s.heap.push (seqObj "list" #[] 0)).update s.heap.objs.size (Obj.mapSeq (· ++ vs.toArray))).push (seqObj "list" vs.toArray 0) }
  rw [hs2]
  exact wpAny_bind (wpAny_holding (wpAny_call_entry slot_list_sort ⟨_, hoL, rfl⟩ entry_list_sort (SrtO.list_sort_ord O hoL hz (fun h2 => hS h2 _ _ hoL) fun out a1 a2 => ⟨_, rfl, wpAny_pure ⟨_, rfl, h out a1 a2⟩⟩) (args_list_sort _)))
end
/-! ints, sorted with repeats -/
def insI (n : Int) : List Int → List Int
  | [] => [n]
  | m :: r => if m < n then m :: insI n r else n :: m :: r
def sortI (ns : List Int) : List Int := ns.foldr insI []
theorem insI_perm {n : Int} : ∀ {l : List Int}, (insI n l).Perm (n :: l)
  | [] => List.Perm.refl _
  | m :: r => by
    unfold insI
    split
    · exact ((insI_perm (l := r)).cons m).trans (List.Perm.swap n m r)
    · exact List.Perm.refl _
theorem sortI_perm : ∀ ns : List Int, (sortI ns).Perm ns
  | [] => List.Perm.refl _
  | n :: ns => (insI_perm (l := sortI ns)).trans ((sortI_perm ns).cons n)
theorem insI_sorted {n : Int} : ∀ {l : List Int}, l.Pairwise (· ≤ ·) → (insI n l).Pairwise (· ≤ ·)
  | [], _ => List.pairwise_singleton _ _
  | m :: r, h => by
    have h' := List.pairwise_cons.mp h
    unfold insI
    split
    · refine List.pairwise_cons.mpr ⟨fun x hx => ?_, insI_sorted h'.2⟩
      rcases List.mem_cons.mp (insI_perm.mem_iff.mp hx) with e | e
      · omega
      · exact h'.1 x e
    · refine List.pairwise_cons.mpr ⟨fun x hx => ?_, h⟩
      rcases List.mem_cons.mp hx with e | e
      · omega
      · have := h'.1 x e; omega
theorem sortI_sorted : ∀ ns : List Int, (sortI ns).Pairwise (· ≤ ·)
  | [] => List.Pairwise.nil
  | n :: ns => insI_sorted (sortI_sorted ns)
theorem sortI_uniq : ∀ {l m : List Int}, l.Pairwise (· ≤ ·) → m.Pairwise (· ≤ ·) → l.Perm m → l = m
  | [], m, _, _, h => (List.Perm.eq_nil h.symm).symm
  | x :: l, [], _, _, h => absurd h.length_eq (by simp)
  | x :: l, y :: m, hl, hm, h => by
    have hl' := List.pairwise_cons.mp hl
    have hm' := List.pairwise_cons.mp hm
    have h1 : x ≤ y := by
      rcases List.mem_cons.mp (h.mem_iff.mpr (List.mem_cons_self (a := y) (l := m))) with e | e
      · omega
      · exact hl'.1 y e
    have h2 : y ≤ x := by
      rcases List.mem_cons.mp (h.mem_iff.mp (List.mem_cons_self (a := x) (l := l))) with e | e
      · omega
      · exact hm'.1 x e
    have e : x = y := by omega
    subst e
    rw [sortI_uniq hl'.2 hm'.2 h.cons_inv]
section
variable {X : Cx} {B : Bs} {ρ : DEnv} {e : Expr} {pos p p2 pos2 : Pos}
theorem cr_sortedTI : CallR X (.builtin "sorted") (fun vs H Q => ∃ (a : Addr) (ns : List Int), vs = [V.ref a] ∧ SqT X.K H a (ns.map V.int) ∧ ∀ (ms : List Int) (p : Addr), ms.Perm ns → ms.Pairwise (· ≤ ·) → H p = none → Q (.ref p) (upd H p (.lst (ms.map V.int)))) := by
  intro pins s σ H vs us Q I r h
  obtain ⟨a, ns, rfl, hs, q⟩ := h
  obtain ⟨its, rv, hl, hz⟩ := I.tuple hs
  rw [Vals.ref1 r]
  have hi := rv.ints
  refine sortedT1 SrtO.swo_int hl (by rw [← rv.length]; exact hz) (fun h2 _ _ _ => SrtO.ints_sortable hi h2) fun out h1 h2 => ?_
  obtain ⟨k1, k2, k3⟩ := SrtO.ints_out hi h1 h2
  obtain ⟨ep, he'⟩ := PyProof.Rows.sortedAll_at s.heap its out.toArray
  have hlen : ((out.map SrtO.iv).map V.int).length ≤ sizeLine := by
    rw [List.length_map, k2.length_eq]
    rw [List.length_map] at hz
    exact hz
  exact ⟨.ref _, upd H (s.heap.objs.size + 1) (.lst ((out.map SrtO.iv).map V.int)), I.laid (t' := s.toks) (fun _ _ => PyProof.Rows.sortedAll_old) (Nat.le_succ _) ⟨hlen, out, ep, vals_of_ints k1, he'⟩, rfl, q _ _ k2 k3 (I.hok.fresh (Nat.le_succ _))⟩
theorem ev_sortedTI {ns : List Int} (hm : X.mg "sorted" = none) (hv : bootBuiltins "sorted" = some (.builtin "sorted")) (ha : EV X B ρ e (encI ns)) (hg : Gl X "sorted" := by rfl) (he : starEach [e] X.env = [(false, eval e X.env)] := by rfl) : EVf X B ρ (.Call (.Name "sorted" p) [e] [] pos) ((sortI ns).map PyData.int) := by
  refine PE.imp (pe_callB cr_sortedTI hg hm hv (pa_cons ha pa_nil he) (by decide) (by decide) he rfl) fun σ H Q ⟨G, en, k⟩ => ⟨G, en, fun v H1 G1 g1 p1 => ?_⟩
  obtain ⟨q, vs, rfl, h1, _, z1, d1⟩ := Dq.tuple g1.sub p1
  have ev := DqAll.ints d1
  subst ev
  refine ⟨q, ns, rfl, h1, fun ms r hp hs hr => ?_⟩
  have e1 : ms = sortI ns := sortI_uniq hs (sortI_sorted ns) (hp.trans (sortI_perm ns).symm)
  subst e1
  exact k r _ _ G1 (g1.trans (Grow.own g1.sub _ hr)) (g1.hh.free hr) (g1.sub.free hr) upd_same (by rw [List.length_map, (sortI_perm ns).length_eq]; rw [List.length_map] at z1; exact z1) (DqAll.of_ints _)
/-! tuple(range(n)), list(range(n)) -/
theorem ev_tupRange {n : Nat} (hc : X.calm = true) (hm : X.mg "tuple" = none) (hm2 : X.mg "range" = none) (ha : EV X B ρ e (.int (n : Int))) (hn : n ≤ 1000) (hg : Gl X "tuple" := by rfl) (hg2 : Gl X "range" := by rfl) (na : starEach [e] X.env = (false, eval e X.env) :: starEach [] X.env := by rfl)
    (na2 : starEach [.Call (.Name "range" p2) [e] [] pos2] X.env = (false, eval (.Call (.Name "range" p2) [e] [] pos2) X.env) :: starEach [] X.env := by rfl) : EV X B ρ (.Call (.Name "tuple" p) [.Call (.Name "range" p2) [e] [] pos2] [] pos) (.tuple ((List.range n).map fun i => PyData.int (i : Nat))) := by
  refine PE.imp (pe_tupRg hc hg hm (prg_1 hg2 hm2 ha na) na2) fun σ H Q ⟨G, en, k⟩ => ⟨G, en, fun v H1 G1 g1 p1 => ?_⟩
  cases p1
  have er : rgV 0 (n : Int) = ((List.range n).map fun i : Nat => (i : Int)).map V.int := by
    unfold rgV
    rw [List.map_map, show ((n : Int) - 0).toNat = n by omega]
    exact List.map_congr_left fun i _ => by show V.int (0 + (i : Int)) = V.int (i : Int); rw [Int.zero_add]
  refine ⟨(n : Int), rfl, ⟨by omega, by omega, by omega, by omega, by omega⟩, fun q hq => k _ _ _ (g1.trans (Grow.new g1.sub _ hq)) ?_⟩
  rw [show ((List.range n).map fun i => PyData.int (i : Nat)) = ((List.range n).map fun i : Nat => (i : Int)).map PyData.int by rw [List.map_map]; rfl]
  exact .tup upd_same (by rw [rgV_length]; exact Nat.le_of_lt (small1000 (by omega))) (by rw [er]; exact DqAll.of_ints _)
theorem ev_listRange {n m : Nat} {f : Expr} (hc : X.calm = true) (hm : X.mg "list" = none) (hm2 : X.mg "range" = none) (ha : EV X B ρ e (.int (m : Int))) (hb : EV X B ρ f (.int (n : Int))) (hn : n ≤ 1000) (hmn : m ≤ 1000) (hg : Gl X "list" := by rfl) (hg2 : Gl X "range" := by rfl) (na : starEach [e, f] X.env = (false, eval e X.env) :: starEach [f] X.env := by rfl) (nb : starEach [f] X.env = (false, eval f X.env) :: starEach [] X.env := by rfl)
    (na2 : starEach [.Call (.Name "range" p2) [e, f] [] pos2] X.env = (false, eval (.Call (.Name "range" p2) [e, f] [] pos2) X.env) :: starEach [] X.env := by rfl) : EVf X B ρ (.Call (.Name "list" p) [.Call (.Name "range" p2) [e, f] [] pos2] [] pos) ((List.range (n - m)).map fun i => PyData.int ((m + i : Nat) : Int)) := by
  refine PE.imp (pe_listRg hc hg hm (prg_2 hg2 hm2 ha hb na nb (by rw [nb]; rfl)) na2) fun σ H Q ⟨G, en, k⟩ => ⟨G, en, fun v H1 G1 g1 p1 => ⟨G1, en.grow g1, fun u H2 G2 g2 p2 => ?_⟩⟩
  cases p1; cases p2
  have er : rgV (m : Int) (n : Int) = ((List.range (n - m)).map fun i : Nat => ((m + i : Nat) : Int)).map V.int := by
    unfold rgV
    rw [List.map_map, show ((n : Int) - (m : Int)).toNat = n - m by omega]
    exact List.map_congr_left fun i _ => by show V.int ((m : Int) + (i : Int)) = V.int ((m + i : Nat) : Int); congr 1
  refine ⟨(m : Int), (n : Int), rfl, rfl, ⟨by omega, by omega, by omega, by omega, by omega⟩, fun q hq => k q _ _ G2 ((g1.trans g2).trans (Grow.own g2.sub _ hq)) ((g1.trans g2).hh.free hq) (g2.sub.free hq) upd_same (by rw [rgV_length]; exact Nat.le_of_lt (small1000 (by omega))) ?_⟩
  rw [show ((List.range (n - m)).map fun i => PyData.int ((m + i : Nat) : Int)) = ((List.range (n - m)).map fun i : Nat => ((m + i : Nat) : Int)).map PyData.int by rw [List.map_map]; rfl, er]
  exact DqAll.of_ints _
/-! min, max of a list -/
theorem ev_minL {ns : List Int} {m : Int} (hcalm : X.calm = true) (hm : X.mg "min" = none) (hv : bootBuiltins "min" = some (.builtin "min")) (ha : EVo X B ρ e (.list (ns.map PyData.int))) (h1 : m ∈ ns) (h2 : ∀ y ∈ ns, m ≤ y) (hg : Gl X "min" := by rfl) (he : starEach [e] X.env = [(false, eval e X.env)] := by rfl) : EV X B ρ (.Call (.Name "min" p) [e] [] pos) (.int m) :=
  ev_callB1 (cr_min hcalm) hm hv ha (fun v G H Q s pv k => by
    obtain ⟨q, vs, rfl, hh, z1, d1⟩ := DqO.list s pv
    have e := DqAll.ints d1
    subst e
    refine ⟨q, ns, rfl, SqL.of hh, List.length_pos_of_mem h1, fun x hx hy => ?_⟩
    have : x = m := by have := hy m h1; have := h2 x hx; omega
    subst this
    exact k _ H G (Grow.refl s) (.int _)) hg (by decide) (by decide) he
theorem ev_maxL {ns : List Int} {m : Int} (hcalm : X.calm = true) (hm : X.mg "max" = none) (hv : bootBuiltins "max" = some (.builtin "max")) (ha : EVo X B ρ e (.list (ns.map PyData.int))) (h1 : m ∈ ns) (h2 : ∀ y ∈ ns, y ≤ m) (hg : Gl X "max" := by rfl) (he : starEach [e] X.env = [(false, eval e X.env)] := by rfl) : EV X B ρ (.Call (.Name "max" p) [e] [] pos) (.int m) :=
  ev_callB1 (cr_max hcalm) hm hv ha (fun v G H Q s pv k => by
    obtain ⟨q, vs, rfl, hh, z1, d1⟩ := DqO.list s pv
    have e := DqAll.ints d1
    subst e
    refine ⟨q, ns, rfl, SqL.of hh, List.length_pos_of_mem h1, fun x hx hy => ?_⟩
    have : x = m := by have := hy m h1; have := h2 x hx; omega
    subst this
    exact k _ H G (Grow.refl s) (.int _)) hg (by decide) (by decide) he
end
end UP

namespace UP
open PySem PySem.Spec L2
/-! ### data that may be compared -/
def Ok : Nat → PyData → Prop
  | _, .none => True
  | _, .bool _ => True
  | _, .int _ => True
  | _, .str x => PyData.strOk x = true
  | 0, _ => False
  | n + 1, .list ds => ∀ d ∈ ds, Ok n d
  | n + 1, .tuple ds => ∀ d ∈ ds, Ok n d
  | _ + 1, .dict _ => False
theorem ok_all {n : Nat} (f : ∀ d, Ok n d → d.canLay0 = true ∧ d.depth ≤ n ∧ plainD d = true) : ∀ ds : List PyData, (∀ d ∈ ds, Ok n d) → PyData.canLayAll0 ds = true ∧ PyData.depthAll ds ≤ n ∧ plainDs ds = true
  | [], _ => ⟨by simp [PyData.canLayAll0], by simp [PyData.depthAll], rfl⟩
  | d :: ds, h => by
    obtain ⟨a1, a2, a3⟩ := f d (h d List.mem_cons_self)
    obtain ⟨b1, b2, b3⟩ := ok_all f ds fun x hx => h x (List.mem_cons_of_mem _ hx)
    refine ⟨by simp [PyData.canLayAll0, a1, b1], by simp only [PyData.depthAll]; omega, ?_⟩
    show (plainD d && plainDs ds) = true
    rw [a3, b3]; rfl
theorem ok_facts : ∀ (n : Nat) (d : PyData), Ok n d → d.canLay0 = true ∧ d.depth ≤ n ∧ plainD d = true
  | n, .none, _ => ⟨by simp [PyData.canLay0], by simp [PyData.depth], rfl⟩
  | n, .bool _, _ => ⟨by simp [PyData.canLay0], by simp [PyData.depth], rfl⟩
  | n, .int _, _ => ⟨by simp [PyData.canLay0], by simp [PyData.depth], rfl⟩
  | n, .str _, h => ⟨by simp [PyData.canLay0]; simpa [Ok] using h, by simp [PyData.depth], rfl⟩
  | 0, .list _, h => by simp [Ok] at h
  | 0, .tuple _, h => by simp [Ok] at h
  | 0, .dict _, h => by simp [Ok] at h
  | _ + 1, .dict _, h => by simp [Ok] at h
  | n + 1, .list ds, h => by
    have h : ∀ d ∈ ds, Ok n d := by simpa [Ok] using h
    obtain ⟨b1, b2, b3⟩ := ok_all (ok_facts n) ds h
    exact ⟨by simp only [PyData.canLay0]; exact b1, by simp only [PyData.depth]; omega, b3⟩
  | n + 1, .tuple ds, h => by
    have h : ∀ d ∈ ds, Ok n d := by simpa [Ok] using h
    obtain ⟨b1, b2, b3⟩ := ok_all (ok_facts n) ds h
    exact ⟨by simp only [PyData.canLay0]; exact b1, by simp only [PyData.depth]; omega, b3⟩
theorem okD_of (n : Nat) {d : PyData} (h : Ok n d) (hn : n ≤ 64 := by decide) : okD d = true := by
  obtain ⟨a, b, c⟩ := ok_facts n d h
  unfold okD SeqAt.shaped
  rw [a, c, decide_eq_true (show d.depth ≤ 64 by omega)]
  rfl
theorem ok_list {n : Nat} {ds : List PyData} (h : ∀ d ∈ ds, Ok n d) : Ok (n + 1) (.list ds) := by simpa [Ok] using h
theorem ok_tuple {n : Nat} {ds : List PyData} (h : ∀ d ∈ ds, Ok n d) : Ok (n + 1) (.tuple ds) := by simpa [Ok] using h
theorem ok_int {n : Nat} {i : Int} : Ok n (.int i) := by cases n <;> simp [Ok]
theorem ok_str {n : Nat} {i : Str} (h : PyData.strOk i = true) : Ok n (.str i) := by cases n <;> simpa [Ok] using h
theorem ok_bool {n : Nat} {i : Bool} : Ok n (.bool i) := by cases n <;> simp [Ok]
theorem ok_none {n : Nat} : Ok n .none := by cases n <;> simp [Ok]
theorem ok_encI {n : Nat} {ns : List Int} : Ok (n + 1) (encI ns) := ok_tuple fun d hd => by
  obtain ⟨i, _, rfl⟩ := List.mem_map.mp hd
  exact ok_int
theorem ok_map {α : Type} {n : Nat} {f : α → PyData} (h : ∀ a, Ok n (f a)) (l : List α) : ∀ d ∈ l.map f, Ok n d := fun d hd => by
  obtain ⟨a, _, rfl⟩ := List.mem_map.mp hd
  exact h a
/-! ### when typed data are equal -/
theorem eqv_map {α : Type} [DecidableEq α] {f : α → PyData} (h : ∀ a b, PyData.eqv (f a) (f b) = decide (a = b)) : ∀ l m : List α, PyData.eqvAll (l.map f) (m.map f) = decide (l = m)
  | [], [] => by simp [PyData.eqvAll]
  | [], _ :: _ => by simp [PyData.eqvAll]
  | _ :: _, [] => by simp [PyData.eqvAll]
  | a :: l, b :: m => by
    rw [List.map_cons, List.map_cons]
    simp only [PyData.eqvAll]
    rw [h a b, eqv_map h l m]
    by_cases e1 : a = b <;> by_cases e2 : l = m <;> simp [e1, e2]
theorem eqv_int (a b : Int) : PyData.eqv (.int a) (.int b) = decide (a = b) := by
  simp only [PyData.eqv]
  by_cases h : a = b <;> simp [h]
theorem eqv_tuple {α : Type} [DecidableEq α] {f : α → PyData} (h : ∀ a b, PyData.eqv (f a) (f b) = decide (a = b)) (l m : List α) : PyData.eqv (.tuple (l.map f)) (.tuple (m.map f)) = decide (l = m) := by
  simp only [PyData.eqv]
  exact eqv_map h l m
theorem eqv_list {α : Type} [DecidableEq α] {f : α → PyData} (h : ∀ a b, PyData.eqv (f a) (f b) = decide (a = b)) (l m : List α) : PyData.eqv (.list (l.map f)) (.list (m.map f)) = decide (l = m) := by
  simp only [PyData.eqv]
  exact eqv_map h l m
theorem any_eqv {α : Type} [DecidableEq α] {f : α → PyData} (h : ∀ a b, PyData.eqv (f a) (f b) = decide (a = b)) (l : List α) (x : α) : ((l.map f).any fun z => PyData.eqv z (f x)) = decide (x ∈ l) := by
  induction l with
  | nil => simp
  | cons a l ih =>
    rw [List.map_cons, List.any_cons, ih, h a x]
    by_cases e : x = a
    · subst e; simp
    · have e' : ¬ a = x := fun z => e z.symm
      simp [e, e']
/-! ### natural numbers -/
abbrev encN (n : Nat) : PyData := .int (n : Int)
abbrev encR (r : List Nat) : PyData := .tuple (r.map encN)
abbrev encO (o : List (List Nat)) : PyData := .tuple (o.map encR)
theorem eqv_encN (a b : Nat) : PyData.eqv (encN a) (encN b) = decide (a = b) := by
  rw [eqv_int]
  by_cases h : a = b
  · simp [h]
  · rw [decide_eq_false h]; exact decide_eq_false (by omega)
theorem eqv_encR (a b : List Nat) : PyData.eqv (encR a) (encR b) = decide (a = b) := eqv_tuple eqv_encN a b
theorem eqv_encO (a b : List (List Nat)) : PyData.eqv (encO a) (encO b) = decide (a = b) := eqv_tuple eqv_encR a b
theorem ok_encN {n m : Nat} : Ok n (encN m) := ok_int
theorem ok_encR {n : Nat} {r : List Nat} : Ok (n + 1) (encR r) := ok_tuple (ok_map (fun _ => ok_encN) r)
theorem ok_encO {n : Nat} {r : List (List Nat)} : Ok (n + 2) (encO r) := ok_tuple (ok_map (fun _ => ok_encR) r)
theorem mapN (r : List Nat) : r.map encN = (r.map fun n : Nat => (n : Int)).map PyData.int := by rw [List.map_map]; rfl
theorem encR_I (r : List Nat) : encR r = encI (r.map fun n : Nat => (n : Int)) := by
  show PyData.tuple _ = PyData.tuple _
  rw [mapN]
theorem mem_castN (n : Nat) (r : List Nat) : ((n : Int) ∈ r.map fun n : Nat => (n : Int)) ↔ n ∈ r := by
  rw [List.mem_map]
  constructor
  · rintro ⟨m, hm, e⟩
    have : m = n := by omega
    rw [← this]; exact hm
  · exact fun h => ⟨n, h, rfl⟩
theorem sum_castN (r : List Nat) : (r.map fun n : Nat => (n : Int)).sum = ((r.sum : Nat) : Int) := by
  induction r with
  | nil => rfl
  | cons a r ih => rw [List.map_cons, List.sum_cons, List.sum_cons, ih]; omega
/-! ### the built-ins that no name of the module hides -/
structure BI (mg : Str → Option Value) : Prop where
  isi : mg "isinstance" = none
  int : mg "int" = none
  bool : mg "bool" = none
  str : mg "str" = none
  tuple : mg "tuple" = none
  list : mg "list" = none
  len : mg "len" = none
  zip : mg "zip" = none
  enum : mg "enumerate" = none
  range : mg "range" = none
  sum : mg "sum" = none
  sorted : mg "sorted" = none
  set : mg "set" = none
  min : mg "min" = none
  max : mg "max" = none
theorem bt_isi : bootBuiltins "isinstance" = some (.builtin "isinstance") := by decide +kernel
theorem bt_int : bootBuiltins "int" = some (.type "int") := by decide +kernel
theorem bt_bool : bootBuiltins "bool" = some (.type "bool") := by decide +kernel
theorem bt_str : bootBuiltins "str" = some (.type "str") := by decide +kernel
theorem bt_tuple : bootBuiltins "tuple" = some (.type "tuple") := by decide +kernel
theorem bt_list : bootBuiltins "list" = some (.type "list") := by decide +kernel
theorem bt_set : bootBuiltins "set" = some (.type "set") := by decide +kernel
theorem bt_sum : bootBuiltins "sum" = some (.builtin "sum") := by decide +kernel
theorem bt_sorted : bootBuiltins "sorted" = some (.builtin "sorted") := by decide +kernel
theorem bt_min : bootBuiltins "min" = some (.builtin "min") := by decide +kernel
theorem bt_max : bootBuiltins "max" = some (.builtin "max") := by decide +kernel
theorem kit_int (d : PyData) : kitB (tyD d) "int" = some (isiD d "int") := by cases d <;> simp only [isiD, tyD] <;> decide +kernel
theorem kit_bool (d : PyData) : kitB (tyD d) "bool" = some (isiD d "bool") := by cases d <;> simp only [isiD, tyD] <;> decide +kernel
theorem kit_tuple (d : PyData) : kitB (tyD d) "tuple" = some (isiD d "tuple") := by cases d <;> simp only [isiD, tyD] <;> decide +kernel
theorem kit_list (d : PyData) : kitB (tyD d) "list" = some (isiD d "list") := by cases d <;> simp only [isiD, tyD] <;> decide +kernel
theorem kit_str (d : PyData) : kitB (tyD d) "str" = some (isiD d "str") := by cases d <;> simp only [isiD, tyD] <;> decide +kernel
def isInt : PyData → Bool
  | .int _ => true
  | .bool _ => true
  | _ => false
def isBool : PyData → Bool
  | .bool _ => true
  | _ => false
def isTup : PyData → Bool
  | .tuple _ => true
  | _ => false
def isLst : PyData → Bool
  | .list _ => true
  | .dict _ => true
  | _ => false
def isStr : PyData → Bool
  | .str _ => true
  | _ => false
theorem isi_int (d : PyData) : isiD d "int" = isInt d := by cases d <;> simp only [isiD, tyD, isInt] <;> decide +kernel
theorem isi_bool (d : PyData) : isiD d "bool" = isBool d := by cases d <;> simp only [isiD, tyD, isBool] <;> decide +kernel
theorem isi_tuple (d : PyData) : isiD d "tuple" = isTup d := by cases d <;> simp only [isiD, tyD, isTup] <;> decide +kernel
theorem isi_list (d : PyData) : isiD d "list" = isLst d := by cases d <;> simp only [isiD, tyD, isLst] <;> decide +kernel
theorem isi_str (d : PyData) : isiD d "str" = isStr d := by cases d <;> simp only [isiD, tyD, isStr] <;> decide +kernel
section
variable {X : Cx} {B : Bs} {ρ : DEnv} {e a b tg : Expr} {es : List Expr} {pos p p2 : Pos}
theorem e_isInt (bi : BI X.mg) {d : PyData} (ha : EV X B ρ e d) (hg : Gl X "isinstance" := by rfl) (hg2 : Gl X "int" := by rfl) (he : starEach [e, .Name "int" p2] X.env = (false, eval e X.env) :: starEach [.Name "int" p2] X.env := by rfl) : EV X B ρ (.Call (.Name "isinstance" p) [e, .Name "int" p2] [] pos) (.bool (isInt d)) :=
  EV.to (ev_isi bi.isi bt_isi ha (ev_ty bi.int bt_int hg2) (kit_int d) hg he) (by rw [isi_int])
theorem e_isBool (bi : BI X.mg) {d : PyData} (ha : EV X B ρ e d) (hg : Gl X "isinstance" := by rfl) (hg2 : Gl X "bool" := by rfl) (he : starEach [e, .Name "bool" p2] X.env = (false, eval e X.env) :: starEach [.Name "bool" p2] X.env := by rfl) : EV X B ρ (.Call (.Name "isinstance" p) [e, .Name "bool" p2] [] pos) (.bool (isBool d)) :=
  EV.to (ev_isi bi.isi bt_isi ha (ev_ty bi.bool bt_bool hg2) (kit_bool d) hg he) (by rw [isi_bool])
theorem e_isTup (bi : BI X.mg) {d : PyData} (ha : EV X B ρ e d) (hg : Gl X "isinstance" := by rfl) (hg2 : Gl X "tuple" := by rfl) (he : starEach [e, .Name "tuple" p2] X.env = (false, eval e X.env) :: starEach [.Name "tuple" p2] X.env := by rfl) : EV X B ρ (.Call (.Name "isinstance" p) [e, .Name "tuple" p2] [] pos) (.bool (isTup d)) :=
  EV.to (ev_isi bi.isi bt_isi ha (ev_ty bi.tuple bt_tuple hg2) (kit_tuple d) hg he) (by rw [isi_tuple])
theorem e_isList (bi : BI X.mg) {d : PyData} (ha : EV X B ρ e d) (hg : Gl X "isinstance" := by rfl) (hg2 : Gl X "list" := by rfl) (he : starEach [e, .Name "list" p2] X.env = (false, eval e X.env) :: starEach [.Name "list" p2] X.env := by rfl) : EV X B ρ (.Call (.Name "isinstance" p) [e, .Name "list" p2] [] pos) (.bool (isLst d)) :=
  EV.to (ev_isi bi.isi bt_isi ha (ev_ty bi.list bt_list hg2) (kit_list d) hg he) (by rw [isi_list])
theorem e_isStr (bi : BI X.mg) {d : PyData} (ha : EV X B ρ e d) (hg : Gl X "isinstance" := by rfl) (hg2 : Gl X "str" := by rfl) (he : starEach [e, .Name "str" p2] X.env = (false, eval e X.env) :: starEach [.Name "str" p2] X.env := by rfl) : EV X B ρ (.Call (.Name "isinstance" p) [e, .Name "str" p2] [] pos) (.bool (isStr d)) :=
  EV.to (ev_isi bi.isi bt_isi ha (ev_ty bi.str bt_str hg2) (kit_str d) hg he) (by rw [isi_str])
/-! natural numbers -/
theorem tv_inN {n : Nat} {r : List Nat} (ha : EV X B ρ a (encN n)) (hb : EVP X B ρ b (isSq X.K (r.map encN))) (hm : behindInMarks .In b = false := by rfl) : TV X B ρ (.Compare a [.In] [b] pos) (decide (n ∈ r)) := by
  rw [mapN] at hb
  exact TV.to (tv_inI ha hb hm) (by simp only [mem_castN])
theorem tv_notinN {n : Nat} {r : List Nat} (ha : EV X B ρ a (encN n)) (hb : EVP X B ρ b (isSq X.K (r.map encN))) (hm : behindInMarks .NotIn b = false := by rfl) : TV X B ρ (.Compare a [.NotIn] [b] pos) (!decide (n ∈ r)) := by
  rw [mapN] at hb
  exact TV.to (tv_notinI ha hb hm) (by simp only [mem_castN])
theorem ev_inN {n : Nat} {r : List Nat} (ha : EV X B ρ a (encN n)) (hb : EVP X B ρ b (isSq X.K (r.map encN))) (hm : behindInMarks .In b = false := by rfl) : EV X B ρ (.Compare a [.In] [b] pos) (.bool (decide (n ∈ r))) := by
  rw [mapN] at hb
  exact EV.to (ev_inI ha hb hm) (by simp only [mem_castN])
theorem ev_sumLN (bi : BI X.mg) {r : List Nat} (hcalm : X.calm = true) (ha : EVo X B ρ e (.list (r.map encN))) (hg : Gl X "sum" := by rfl) (he : starEach [e] X.env = [(false, eval e X.env)] := by rfl) : EV X B ρ (.Call (.Name "sum" p) [e] [] pos) (encN r.sum) := by
  rw [mapN] at ha
  exact EV.to (ev_sumL hcalm bi.sum bt_sum ha hg he) (by rw [sum_castN])
theorem ev_sumTN (bi : BI X.mg) {r : List Nat} (hcalm : X.calm = true) (ha : EV X B ρ e (encR r)) (hg : Gl X "sum" := by rfl) (he : starEach [e] X.env = [(false, eval e X.env)] := by rfl) : EV X B ρ (.Call (.Name "sum" p) [e] [] pos) (encN r.sum) := by
  rw [encR_I] at ha
  exact EV.to (ev_sumT hcalm bi.sum bt_sum ha hg he) (by rw [sum_castN])
theorem rangeN (n : Nat) : rangeD 0 n = (List.range n).map encN := by
  unfold rangeD
  refine List.map_congr_left fun i _ => ?_
  rw [Int.zero_add]
theorem iv_rangeN (bi : BI X.mg) {n : Nat} (h : EV X B ρ e (encN n)) (hn : n ≤ 1000000) (hg : Gl X "range" := by rfl) (hs : starEach [e] X.env = [(false, eval e X.env)] := by rfl) : IV X B ρ tg (.Call (.Name "range" p) [e] [] pos) ((List.range n).map encN) := by
  rw [← rangeN]
  exact iv_range1 bi.range h hn hg hs
/-- an item by its natural place -/
theorem ix_map {α : Type} {xs : List α} {f : α → PyData} {n : Nat} {x : α} (h : xs[n]? = some x) : atI (xs.map f) ((n : Nat) : Int) = some (f x) := atI_nat (by rw [List.getElem?_map, h]; rfl)
end
/-! ### defs by their name -/
structure DefAt (K : PySem.W.Frag) (mg : Str → Option Value) (x : Str) (st : Stmt) : Prop where
  ex : ∃ f fd, Fun K x x st f fd ∧ mg x = some (.ref f)
structure Dn (P : Program) (w : World) (K : PySem.W.Frag) (mg : Str → Option Value) (base : Heap) (k : Nat) (x : Str) (ps : List Str) (R : List PyData → Out → Prop) : Prop where
  ex : ∃ f fd, mg x = some (.ref f) ∧ PySem.W.keepIn K (.ref f) = true ∧ Binds K fd ps [] ∧ FnD P w K mg base k f fd ps R ∧ ∃ oc od sl, K.lookup f = some ⟨oc, od, .func fd, sl⟩
section
variable {P : Program} {w : World} {K : PySem.W.Frag} {mg : Str → Option Value} {base : Heap}
theorem dn_of {x : Str} {st : Stmt} {N ps : List Str} {k : Nat} {R : List PyData → Out → Prop} (D : DefAt K mg x st) (S : FnScope N ps (defScope st))
    (hb : ∀ (kV doc pm : Value) (an : Option Addr) (cdv ct : Value) (us : List Value), us.length = ps.length → bindArgs (PySem.W.fnOf x x (defArgs st) (defBody st) (defScope st) .none kV doc pm an cdv ct) ⟨us, []⟩ = pure (ps.zip us))
    (hl : ∀ ds o, R ds o → ds.length = ps.length)
    (body : ∀ (f : Addr) (cdv : Value) (A : Around) (outer : List Env) (s : Shared) (H : Hp) (E : XK) (B : Bs) (ds : List PyData) (o : Out), R ds o → Room k (cxD P w K mg base N x st f cdv A outer s H E).A →
      PassesOwn (model P w) (cxD P w K mg base N x st f cdv A outer s H E).A (cxD P w K mg base N x st f cdv A outer s H E).env (cxD P w K mg base N x st f cdv A outer s H E).xe →
      TakesD (cxD P w K mg base N x st f cdv A outer s H E) B (fun _ c l => o = .exc c l) →
      SDs (cxD P w K mg base N x st f cdv A outer s H E) B (rho0 N ds) (defBody st) { nx := fun _ => o = .ret .none, rt := fun _ d => o = .ret d, ex := fun _ c l => o = .exc c l }) : Dn P w K mg base (k + 1) x ps R := by
  obtain ⟨f, fd, F, g⟩ := D.ex
  obtain ⟨oc, od, _, _, _, _, _, _, sl, _, lk, _⟩ := F.ex
  exact ⟨f, fd, g, F.kp, F.binds hb, fnD F S hl (fun cdv A outer s H E B ds o => body f cdv A outer s H E B ds o), oc, od, sl, lk⟩
theorem Dn.mono {k j : Nat} {x : Str} {ps : List Str} {R : List PyData → Out → Prop} (D : Dn P w K mg base k x ps R) (h : k ≤ j) : Dn P w K mg base j x ps R := by
  obtain ⟨f, fd, a, b, c, d, z⟩ := D.ex
  exact ⟨f, fd, a, b, c, d.mono h, z⟩
end
section
variable {X : Cx} {B : Bs} {ρ : DEnv} {e : Expr} {es : List Expr} {pos p : Pos} {k : Nat} {ps : List Str} {R : List PyData → Out → Prop} {x : Str} {ds : List PyData}
theorem ev_fn {d : PyData} (D : Dn X.prog X.w X.K X.mg X.base k x ps R) (hr : Room k X.A) (ha : AV X B ρ (e :: es) ds) (hR : R ds (.ret d)) (hg : Gl X x := by rfl) (hdb : (x == ("__debug__" : Str)) = false := by decide) (he : starEach (e :: es) X.env = (false, eval e X.env) :: starEach es X.env := by rfl) (hpl : (backTo pos (starEach es X.env)).any (·.1) = false := by rfl) :
    EV X B ρ (.Call (.Name x p) (e :: es) [] pos) d := by
  obtain ⟨f, fd, a, b, c, F, _⟩ := D.ex
  exact ev_call F hr a b c ha hR hg hdb he hpl
theorem evx_fn {o : Out} {ex : DEnv → Value → Option PyData → Prop} (tk : TakesD X B ex) (D : Dn X.prog X.w X.K X.mg X.base k x ps R) (hr : Room k X.A) (ha : AV X B ρ (e :: es) ds) (hR : R ds o) (hg : Gl X x := by rfl) (hdb : (x == ("__debug__" : Str)) = false := by decide) (he : starEach (e :: es) X.env = (false, eval e X.env) :: starEach es X.env := by rfl) (hpl : (backTo pos (starEach es X.env)).any (·.1) = false := by rfl) :
    EVx X B ex ρ (.Call (.Name x p) (e :: es) [] pos) o := by
  obtain ⟨f, fd, a, b, c, F, _⟩ := D.ex
  exact evx_call tk F hr a b c ha hR hg hdb he hpl
end
/-! ### the end -/
section
variable {P : Program} {w : World} {K : PySem.W.Frag} {mg : Str → Option Value} {h : Heap}
theorem defAt_mk {x : Str} {st : Stmt} {f : Addr} {oc : Value} {od an : Option Addr} {osl : Array (Option Value)} {kV doc pm cdv ct : Value} (X : K.In h) (G : h.Ns mainGlobals mg) (a : PySem.W.nsIn K mainGlobals x = some (some (.ref f)))
    (l : K.lookup f = some ⟨oc, od, .func (PySem.W.fnOf x x (defArgs st) (defBody st) (defScope st) .none kV doc pm an cdv ct), osl⟩) (c : PySem.W.codeIn K cdv x = true) (k : PySem.W.keepIn K (.ref f) = true) : DefAt K mg x st := ⟨⟨f, _, fun_mk l c k, PySem.W.mg_of X G a⟩⟩
theorem exc_mk {x : Str} {C : Addr} (X : K.In h) (G : h.Ns mainGlobals mg) (a : PySem.W.nsIn K mainGlobals x = some (some (.ref C))) (q : PySem.W.excIn K C [.type "ValueError", .type "Exception", .type "BaseException", .type "object"] "ValueError.__new__" = true)
    (k : PySem.W.keepIn K (.ref C) = true) (b : PySem.W.subIn K (.ref C) (.type "BaseException") = some true) (t : PySem.W.typeIn K (.ref C) = some (.type "type")) : ExcC1 K mg x C := ⟨q, PySem.W.mg_of X G a, k, b, t⟩
theorem law_end {st : Stmt} {fa : Addr} {k : Nat} {R : List PyData → Out → Prop} (D : DefAt K mg "law" st) (hb : ∀ (kV doc pm : Value) (an : Option Addr) (cdv ct : Value) (us : List Value), us.length = (["script"] : List Str).length → bindArgs (PySem.W.fnOf "law" "law" (defArgs st) (defBody st) (defScope st) .none kV doc pm an cdv ct) ⟨us, []⟩ = pure ((["script"] : List Str).zip us))
    (hfa : mg "law" = some (.ref fa)) (hall : ∀ base : Heap, Dn P w K mg base k "law" ["script"] R) :
    ∃ fd : FuncData, (∀ (s : Shared) (u : Value), BindsTo s fd ⟨[u], []⟩ [("script", u)]) ∧ ∀ base : Heap, K.In base → base.Ns mainGlobals mg → FnOk P w K mg base (L2.CX P w) k fa fd ["script"] (spF K R) := by
  obtain ⟨f, fd, F, g⟩ := D.ex
  have e := hfa.symm.trans g
  cases e
  obtain ⟨oc, od, kV, doc, pm, an, cdv, ct, sl, rfl, lk, _⟩ := F.ex
  refine ⟨_, fun s u => .of_eq (hb kV doc pm an cdv ct [u] rfl), fun base _ _ => ?_⟩
  obtain ⟨f', fd', a, _, _, d, oc', od', sl', lk'⟩ := (hall base).ex
  have e := a.symm.trans g
  cases e
  have e := lk'.symm.trans lk
  cases e
  exact d
theorem law_sp {H : Hp} {a : Addr} {ns : List Int} (hS : SqL K H a (ns.map V.int)) : spF K (fun ds o => ∃ sc : List Int, ds = [scriptD sc] ∧ o = .ret (.bool true)) [.ref a] H (fun v _ => v = .bl true) (fun _ _ _ => False) :=
  ⟨H, _, _, Same.refl _, fun _ _ e => e, .cons (.scr hS rfl) .nil, ⟨ns, rfl, rfl⟩, fun v H' G' _ p => by cases p; rfl⟩
theorem law_cx (w : World) (H : Hp) (s : Shared) (e : Value) (s' : Shared) (h : L2.CX P w [] H s (fun _ _ _ => False) e s') : False := by
  obtain ⟨_, _, _, _, _, _, _, _, _, _, _, _, z⟩ := h
  exact z
end
end UP

/-! PDx: several clauses «except C as e», and isinstance of what is caught. -/
namespace UP
open PySem PySem.Spec PyProof.Rows L2
abbrev HdT := Value × (Addr → Value → Option Addr → TS)
def unD (i : Nat) (D : Ends) : Ends := { nx := fun σ H => D.nx (σ.set i none) H, rt := D.rt, bk := fun σ H => D.bk (σ.set i none) H, ct := fun σ H => D.ct (σ.set i none) H }
/-- the clauses, one after the other; slot i has the error's name -/
def wA (K : PySem.W.Frag) (Wo : WX) (D : Ends) (i : Nat) : List HdT → WX
  | [] => Wo
  | (c, ts) :: r => fun cl dd σ H => ∃ b, PySem.W.exmOne K cl c = some b ∧ (b = true → ∀ q, H q = none → ts q cl dd (unD i D) (σ.set i (some (.ref q))) H) ∧ (b = false → wA K Wo D i r cl dd σ H)
inductive HdA (X : Cx) (n : Str) : List ExceptHandler → List HdT → Prop
  | nil : HdA X n [] []
  | cons {x : Str} {c : Value} {ts : Addr → Value → Option Addr → TS} {st0 : Stmt} {sts : List Stmt} {np p2 : Pos} {hs : List ExceptHandler} {l : List HdT} (nm : Names X x c)
      (su : ∀ (q : Addr) (ob : Obj) (cl : Value) (dd : Option Addr) (pn : List (Addr × Obj)), Zc cl dd ob → (∃ fs, ob.data = .fields fs) → PSs (X.suite q ((q, ob) :: pn)) (st0 :: sts) (ts q cl dd)) (r : HdA X n hs l) :
      HdA X n (.ExceptHandler (some (.Name x np)) (some n) (st0 :: sts) p2 :: hs) ((c, ts) :: l)
section
variable {X : Cx} {body : List Stmt} {h0 : ExceptHandler} {hs : List ExceptHandler} {l : List HdT} {pos : Pos} {tb : WX → TS} {Wo : WX} {i : Nat} {n : Str}
theorem ps_tryA (e1 : X.stack = X.env :: X.outer) (e2 : X.env.frame = some X.env.locals) (nd : X.N.Nodup) (hi : X.N[i]? = some n) (hl : X.env.kindOf n = some .local) (tk : Takes X Wo)
    (hb : ∀ (W : WX) (pn : List (Addr × Obj)) (xe : Value → Shared → Prop), Takes (X.tr pn xe) W → PassesOwn (model X.prog X.w) X.A X.env xe → PSs (X.tr pn xe) body (tb W))
    (hh : HdA X n (h0 :: hs) l) : PS X (.Try body (h0 :: hs) [] [] pos) (fun D σ H => tb (wA X.K Wo D i l) D σ H) := by
  constructor
  intro pins s σ H D I hyp
  have okX := I.ok
  have fr : X.A.frames = some (X.env :: X.outer) := okX.frames.trans (congrArg some e1)
  refine wpAny_Try_except (wpAny_mono ((hb (wA X.K Wo D i l) (X.pn ++ pins)
    (fun ex z1 => wpAny (model X.prog X.w) X.A (noteFrame ex X.env) (fun _ z2 => wpAny (model X.prog X.w) X.A (setFlight ex none) (fun _ z3 => wpAny (model X.prog X.w) X.A (handleBy ex X.env (h0 :: hs)) (SP X pins D) X.xe z3) X.xe z2) X.xe z1)
    ?caught PassesOwn.looking).run [] s σ H D (I.toTry _) hyp) ?through fun _ _ z => z)
  case through =>
    intro fl z1 sp
    cases fl with
    | next => obtain ⟨p, P', J, q⟩ := sp; exact wpAny_execs_nil ⟨p, P', J.ofTry okX, q⟩
    | brk => obtain ⟨p, P', J, q⟩ := sp; exact ⟨p, P', J.ofTry okX, q⟩
    | cont => obtain ⟨p, P', J, q⟩ := sp; exact ⟨p, P', J.ofTry okX, q⟩
    | ret u => obtain ⟨v, p, P', J, r, q⟩ := sp; exact ⟨v, p, P', J.ofTry okX, r, q⟩
  case caught =>
    rintro u z1 ⟨a, Bh, sI, pi2, σ1, H1, cl, dd, rfl, J0, nb, up, sky, na, os, ag, w⟩
    have J : Inv X pins σ1 H1 sI := J0.ofTry okX
    have sky1 : Sky Bh (X.env :: X.outer) a (Zc cl dd) X.env.locals z1.heap := e1 ▸ sky
    show wpAny (model X.prog X.w) X.A (noteFrame (.ref a) X.env) _ _ _
    refine Sky.land Zc.steady fr e2 sky1 fun g3 fly up3 => ?_
    have J3 : Inv X pins σ1 H1 { z1 with heap := g3 } := J.landed nb fly.1 (up.trans up3) os ag
    obtain ⟨ob3, fs3, at3, zc3, dt3⟩ := fly.there
    have nfr : a ∉ frs (X.env :: X.outer) := fun hm => by
      obtain ⟨_, o', q', hn⟩ := fly.2.2.1.mem hm
      rw [at3] at q'
      cases q'
      exact hn _ dt3
    have nL : a ≠ X.env.locals := fun z => nfr (List.mem_filterMap.mpr ⟨X.env, List.mem_cons_self, by rw [e2, z]⟩)
    have nF : a ∉ X.fs := fun hm => by
      obtain ⟨en, hen, q⟩ := List.mem_filterMap.mp hm
      exact nfr (List.mem_filterMap.mpr ⟨en, List.mem_cons_of_mem _ hen, q⟩)
    have S3 := J3.suite at3 dt3 na nL nF
    have go : ∀ {hs1 : List ExceptHandler} {l1 : List HdT}, HdA X n hs1 l1 → wA X.K Wo D i l1 cl dd σ1 H1 → wpAny (model X.prog X.w) X.A (handleBy (.ref a) X.env hs1) (SP X pins D) X.xe { z1 with heap := g3 } := by
      intro hs1 l1 hk
      induction hk with
      | nil =>
        intro w
        obtain ⟨k1, k2, k3, oe, vs, T, oT, ts', he, hz, hd, h1, hr⟩ := id fly
        refine wpAny_handleBy_nil ?_
        unfold PySem.passOn
        refine wpAny_bind (wpAny_field he hd h1 ?_)
        rw [if_neg (show ¬ ((Value.ref T == Value.none) = true) by simp)]
        have last : wpAny (model X.prog X.w) X.A (setFlight (.ref a) X.env.frame) (fun _ z4 => wpAny (model X.prog X.w) X.A (throw (.ref a) : Sem Flow) (SP X pins D) X.xe z4) X.xe { z1 with heap := g3 } := by
          rw [e2]
          exact HandSPX.setFlight_upZ fly fun g4 hh4 up4 => wpAny_throw (tk _ _ ⟨a, Bh, sI, pins, σ1, H1, cl, dd, rfl, J, nb, (up.trans up3).trans up4, .inr (.inr (by rw [e1]; exact hh4)), na, os, ag, w⟩)
        first
          | exact wpAny_bind (wpAny_pure (wpAny_bind last))
          | exact wpAny_bind last
      | @cons x c ts st0 sts np p2 hs2 l2 nm su r ih =>
        rintro ⟨b, hb1, yes, no⟩
        refine wpAny_handleBy_cons (codeAny_handlers_test ?_) (fun q => by cases q)
        have lt : PySem.W.Looks (model X.prog X.w) g3 (typeOf (.ref a)) cl := fun A Q E z k q => wpAny_typeOf_ref (k _ _ at3) (by rw [zc3.1]; exact q)
        have lm := PySem.W.exm_one (M := model X.prog X.w) J3.kIn lt hb1
        have tst : ∀ {Q : Value → Shared → Prop} {E : Value → Shared → Prop}, Q c { z1 with heap := g3 } → wpAny (model X.prog X.w) (X.A.mark (some (.ref a))) (eval (.Name x np) X.env) Q E { z1 with heap := g3 } := fun {Q E} q => by
          rcases nm with ⟨hg, hdb, hm | ⟨hm, hv, hn⟩⟩
          · exact ld_glob (X := X.suite a ((a, ob3) :: (X.pn ++ pins))) S3 hg hm q hdb
          · exact ld_blt (X := X.suite a ((a, ob3) :: (X.pn ++ pins))) S3 hg hm hv q hn hdb
        refine tst (lm.here ?_)
        cases b with
        | false =>
          show wpAny _ X.A (handleBy (.ref a) X.env hs2) _ _ _
          exact ih (no rfl)
        | true =>
          refine codeAny_handlers_suite_as (HandSPX.lands_againZ fly fun g4 fly4 up4 => ?_)
          have J4 : Inv X pins σ1 H1 { z1 with heap := g4 } := J.landed nb fly4.1 ((up.trans up3).trans up4) os ag
          obtain ⟨ob4, fs4, at4, zc4, dt4⟩ := fly4.there
          have S4 := J4.suite at4 dt4 na nL nF
          refine store_ok (X := X.suite a ((a, ob4) :: (X.pn ++ pins))) (v := .ref a) S4 nd hi (.inl hl) rfl (fun z5 S5 => ?_) (.inr hl)
          refine wpAny_mono ((su a ob4 cl dd (X.pn ++ pins) zc4 ⟨_, dt4⟩).run [] z5 _ H1 _ S5 (yes rfl a na)) (fun fl z6 sp => ?_) fun _ _ z => z.elim
          have fin : ∀ {σ6 : L2.St} {H6 : Hp} {Q : Shared → Prop}, Inv (X.suite a ((a, ob4) :: (X.pn ++ pins))) [] σ6 H6 z6 → (∀ z7, Inv X pins (σ6.set i none) H6 z7 → Q z7) → wpAny (model X.prog X.w) X.A (do bindName X.env n .none; unbindBehindTheSuite X.env n p2) (fun _ z7 => Q z7) X.xe z6 :=
            fun S6 hq => gone_ok (S6.unsuite okX) nd hi hl hq
          cases fl with
          | next => obtain ⟨p, P', S6, q⟩ := sp; exact fin S6 fun _ J7 => ⟨_, _, J7, q⟩
          | brk => obtain ⟨p, P', S6, q⟩ := sp; exact fin S6 fun _ J7 => ⟨_, _, J7, q⟩
          | cont => obtain ⟨p, P', S6, q⟩ := sp; exact fin S6 fun _ J7 => ⟨_, _, J7, q⟩
          | ret u => obtain ⟨v, p, P', S6, rv, q⟩ := sp; exact fin S6 fun _ J7 => ⟨_, _, _, J7, rv, q⟩
    exact go hh w
end
/-! ### the same over data -/
/-- a caught error under its name -/
def excR (K : PySem.W.Frag) (a : Addr) (dd : Option Addr) (ln : Option PyData) : Res where
  holds := fun v fp G H => v = .ref a ∧ fp = [] ∧ XAt K G H dd ln
  stab := fun _ _ _ _ _ _ ⟨h1, h2, h3⟩ g _ => ⟨h1, h2, h3.grow g⟩
/-- what the clauses make of an error of class C -/
inductive Hnd (X : Cx) (i : Nat) (E : DE) (ρ : DEnv) (C : Value) (ln : Option PyData) : List ExceptHandler → Prop
  | out : E.ex ρ C ln → Hnd X i E ρ C ln []
  | hit {x : Str} {c : Value} {n : Str} {st0 : Stmt} {sts : List Stmt} {np p2 : Pos} {hs : List ExceptHandler} : X.mg x = some c → PySem.W.exmOne X.K C c = some true →
      (∀ (B' : Bs) (q : Addr) (ob : Obj) (dd : Option Addr) (pn : List (Addr × Obj)) (_ : ln = none → dd = none) (_ : Zc C dd ob) (_ : ∃ fs, ob.data = .fields fs), SDs (X.suite q ((q, ob) :: pn)) B' (ρ.set i (.res (excR X.K q dd ln))) (st0 :: sts) { nx := fun r => E.nx (r.set i .un), rt := E.rt, bk := fun r => E.bk (r.set i .un), ct := fun r => E.ct (r.set i .un) }) →
      Hnd X i E ρ C ln (.ExceptHandler (some (.Name x np)) (some n) (st0 :: sts) p2 :: hs)
  | miss {x : Str} {c : Value} {n : Str} {st0 : Stmt} {sts : List Stmt} {np p2 : Pos} {hs : List ExceptHandler} : X.mg x = some c → PySem.W.exmOne X.K C c = some false → Hnd X i E ρ C ln hs →
      Hnd X i E ρ C ln (.ExceptHandler (some (.Name x np)) (some n) (st0 :: sts) p2 :: hs)
inductive HdN (X : Cx) (n : Str) : List ExceptHandler → List (Value × List Stmt) → Prop
  | nil : HdN X n [] []
  | cons {x : Str} {c : Value} {st0 : Stmt} {sts : List Stmt} {np p2 : Pos} {hs : List ExceptHandler} {l : List (Value × List Stmt)} (nm : Names X x c) (r : HdN X n hs l) : HdN X n (.ExceptHandler (some (.Name x np)) (some n) (st0 :: sts) p2 :: hs) ((c, st0 :: sts) :: l)
section
variable {X : Cx} {B : Bs} {ρ : DEnv} {body : List Stmt} {h0 : ExceptHandler} {hs : List ExceptHandler} {pos : Pos} {i : Nat} {n : Str} {E : DE}
def tH (X : Cx) (sts : List Stmt) (q : Addr) (cl : Value) (dd : Option Addr) : TS := fun D σ H => ∃ B' ρ' E', (∀ ob pn, Zc cl dd ob → (∃ fs, ob.data = .fields fs) → SDs (X.suite q ((q, ob) :: pn)) B' ρ' sts E') ∧ tS X.K B' ρ' E' D σ H
theorem hdA_of {l : List (Value × List Stmt)} (h : HdN X n hs l) : HdA X n hs (l.map fun z => (z.1, tH X z.2)) := by
  induction h with
  | nil => exact .nil
  | cons nm r ih => exact .cons nm (fun q ob cl dd pn zc hf => ⟨fun pins s σ H D I ⟨B', ρ', E', h, k⟩ => (h ob pn zc hf).run pins s σ H D I k⟩) ih
def baseB {G H : Hp} (g : Grow B.1 B.2 G H) : Bs := ⟨G, B.2, B.3.gg g.gg⟩
theorem En.base {K : PySem.W.Frag} {G H : Hp} {σ : L2.St} (en : En K B G H σ ρ) : En K (baseB en.gr) G H σ ρ := ⟨⟨Same.refl _, en.gr.hh, en.gr.sub, fun _ _ h => h, fun _ => en.gr.tc B.3⟩, en.len, en.fp.elim fun fp F => ⟨fp, F.at_, F.apart, F.own⟩⟩
theorem gr_base {G H G' H' : Hp} (g : Grow B.1 B.2 G H) (g' : Grow G B.2 G' H') : Grow B.1 B.2 G' H' := ⟨g.gg.trans g'.gg, g'.hh, g'.sub, fun a n e => g'.sep a n (g.sep a n e), fun t => g'.tc (t.gg g.gg)⟩
theorem En.unbase {K : PySem.W.Frag} {G H G' H' : Hp} {σ : L2.St} (g : Grow B.1 B.2 G H) (en : En K (baseB g) G' H' σ ρ) : En K B G' H' σ ρ := ⟨gr_base g en.gr, en.len, en.fp.elim fun fp F => ⟨fp, F.at_, F.apart, F.own⟩⟩
theorem sd_tryA {l : List (Value × List Stmt)} (e1 : X.stack = X.env :: X.outer) (e2 : X.env.frame = some X.env.locals) (nd : X.N.Nodup) (hi : X.N[i]? = some n) (hl : X.env.kindOf n = some .local) (tk : TakesD X B E.ex) (hn : HdN X n (h0 :: hs) l)
    (hb : ∀ (B' : Bs) (pn : List (Addr × Obj)) (xe : Value → Shared → Prop), TakesD (X.tr pn xe) B' (fun ρ' C ln => Hnd X i E ρ' C ln (h0 :: hs)) → PassesOwn (model X.prog X.w) X.A X.env xe →
      SDs (X.tr pn xe) B' ρ body { nx := E.nx, rt := E.rt, bk := E.bk, ct := E.ct, ex := fun ρ' C ln => Hnd X i E ρ' C ln (h0 :: hs) }) : SD X B ρ (.Try body (h0 :: hs) [] [] pos) E := by
  refine PS.imp (ps_tryA (Wo := WD X.K B E.ex) (tb := fun W D σ H => ∃ B' ρ' E', (∀ pn xe, Takes (X.tr pn xe) (WD X.K B' E'.ex) → PassesOwn (model X.prog X.w) X.A X.env xe → SDs (X.tr pn xe) B' ρ' body E') ∧ (∀ c d σ H, WD X.K B' E'.ex c d σ H → W c d σ H) ∧ tS X.K B' ρ' E' D σ H) e1 e2 nd hi hl tk
    (fun W pn xe tk' po => ⟨fun pins s σ H D I ⟨B', ρ', E', h, hw, k⟩ => (h pn xe (tk'.imp hw) po).run pins s σ H D I k⟩) (hdA_of hn)) fun D σ H ⟨G, en, q1, q2, q3, q4⟩ => ?_
  refine ⟨baseB en.gr, ρ, { nx := E.nx, rt := E.rt, bk := E.bk, ct := E.ct, ex := fun ρ' C ln => Hnd X i E ρ' C ln (h0 :: hs) }, fun pn xe t p => hb (baseB en.gr) pn xe t p, ?_, G, en.base, fun ρ' σ' G' H' s en' z => q1 ρ' σ' G' H' s (en'.unbase en.gr) z, fun r d v t G' H' s g dq z => q2 r d v t G' H' s (g.unbase en.gr) dq z, fun ρ' σ' G' H' s en' z => q3 ρ' σ' G' H' s (en'.unbase en.gr) z, fun ρ' σ' G' H' s en' z => q4 ρ' σ' G' H' s (en'.unbase en.gr) z⟩
  rintro C dd σ1 H1 ⟨G1, ρ1, ln, en1, xa, hd⟩
  have main : ∀ {hs1 : List ExceptHandler} {l1 : List (Value × List Stmt)}, HdN X n hs1 l1 → Hnd X i E ρ1 C ln hs1 → wA X.K (WD X.K B E.ex) D i (l1.map fun z => (z.1, tH X z.2)) C dd σ1 H1 := by
    intro hs1 l1 hk
    induction hk with
    | nil =>
      intro hd
      cases hd with
      | out h => exact ⟨G1, ρ1, ln, en1.unbase en.gr, xa, h⟩
    | @cons x c st0 sts np p2 hs2 l2 nm r ih =>
      intro hd
      cases hd with
      | hit hm hx hsd =>
        rename_i c'
        have ec : c = c' := by
          rcases nm with ⟨_, _, z | ⟨z, _⟩⟩
          · exact Option.some.inj (z.symm.trans hm)
          · rw [z] at hm; cases hm
        subst ec
        refine ⟨true, hx, fun _ q hq => ?_, fun z => nomatch z⟩
        refine ⟨baseB en.gr, ρ1.set i (.res (excR X.K q dd ln)), { nx := fun r => E.nx (r.set i .un), rt := E.rt, bk := fun r => E.bk (r.set i .un), ct := fun r => E.ct (r.set i .un) }, fun ob pn zc hf => hsd (baseB en.gr) q ob dd pn (fun e => by subst e; exact xa) zc hf, G1, en1.setRes (Grow.refl en1.sub) (R := excR X.K q dd ln) (nf := []) ⟨rfl, rfl, xa⟩ (fun _ z => nomatch z), ?_, ?_, ?_, ?_⟩
        · exact fun ρ' σ' G' H' s en' z => q1 _ _ G' H' (en1.gr.gg.trans s) ((en'.setUn).unbase en.gr) z
        · exact fun r d v t G' H' s g dq z => q2 r d v t G' H' (en1.gr.gg.trans s) (g.unbase en.gr) dq z
        · exact fun ρ' σ' G' H' s en' z => q3 _ _ G' H' (en1.gr.gg.trans s) ((en'.setUn).unbase en.gr) z
        · exact fun ρ' σ' G' H' s en' z => q4 _ _ G' H' (en1.gr.gg.trans s) ((en'.setUn).unbase en.gr) z
      | miss hm hx hr =>
        rename_i c'
        have ec : c = c' := by
          rcases nm with ⟨_, _, z | ⟨z, _⟩⟩
          · exact Option.some.inj (z.symm.trans hm)
          · rw [z] at hm; cases hm
        subst ec
        exact ⟨false, hx, (fun z => by cases z), fun _ => ih hr⟩
  exact main hn hd
end
/-! ### isinstance(e, C) -/
structure IsA (K : PySem.W.Frag) (C D : Addr) (b : Bool) : Prop where
  x : PySem.W.exmOne K (.ref C) (.ref D) = some b
  i : PySem.W.kitOne K (.ref C) (.ref D) = some b
section
variable {X : Cx} {B : Bs} {ρ : DEnv} {q : Addr} {ob : Obj} {pn : List (Addr × Obj)} {C D : Addr} {i : Nat} {x n : Str} {p p1 p2 pos : Pos}
theorem ev_exc (i : Nat) {dd : Option Addr} {ln : Option PyData} (hρ : ρ[i]? = some (.res (excR X.K q dd ln)) := by rfl) (hN : X.N[i]? = some n := by rfl) (hv : Vis X.env.scope n := by first | exact Or.inl rfl | exact Or.inr (Or.inl rfl) | exact Or.inr (Or.inr rfl))
    (hd : (n == ("__debug__" : Str)) = false := by decide) (hcd : (n == ("__classdict__" : Str)) = false := by decide) : EVP X B ρ (.Name n p) (fun G H v => v = .ref q ∧ XAt X.K G H dd ln) := by
  refine PE.imp (pe_var (i := i) hN hv hd hcd) fun σ H Q ⟨G, en, k⟩ => ?_
  obtain ⟨v, nf, e, ⟨e1, e2, e3⟩, _⟩ := en.getRes hρ
  exact ⟨v, e, k v H G (Grow.refl en.sub) ⟨e1, e3⟩⟩
theorem ev_isE (i : Nat) {ln : Option PyData} {b : Bool} (y : ExcC X.K C) (hz : Zc (.ref C) none ob) (hf : ∃ fs, ob.data = .fields fs) (hm : X.mg "isinstance" = none) (F : ExcC1 X.K X.mg x D) (ia : IsA X.K C D b) (hρ : ρ[i]? = some (.res (excR X.K q none ln)) := by rfl) (hN : X.N[i]? = some n := by rfl)
    (hv : Vis X.env.scope n := by first | exact Or.inl rfl | exact Or.inr (Or.inl rfl) | exact Or.inr (Or.inr rfl)) (hg : Gl X "isinstance" := by rfl) (hg2 : Gl X x := by rfl) (hd : (n == ("__debug__" : Str)) = false := by decide) (hcd : (n == ("__classdict__" : Str)) = false := by decide) (hdb : (x == ("__debug__" : Str)) = false := by decide)
    (he : starEach [.Name n p1, .Name x p2] X.env = (false, eval (.Name n p1) X.env) :: starEach [.Name x p2] X.env := by rfl) (he2 : starEach [.Name x p2] X.env = [(false, eval (.Name x p2) X.env)] := by rfl) (hpl : (backTo pos (starEach [.Name x p2] X.env)).any (·.1) = false := by rfl) :
    EV (X.suite q ((q, ob) :: pn)) B ρ (.Call (.Name "isinstance" p) [.Name n p1, .Name x p2] [] pos) (.bool b) := by
  have h1 : EVP (X.suite q ((q, ob) :: pn)) B ρ (.Name n p1) (fun G H v => v = .ref q ∧ XAt X.K G H none ln) := ev_exc (X := X.suite q ((q, ob) :: pn)) i hρ hN hv hd hcd
  have h2 : EVP (X.suite q ((q, ob) :: pn)) B ρ (.Name x p2) (fun _ _ v => v = .ref D) := ev_cls (X := X.suite q ((q, ob) :: pn)) F.g hg2 hdb
  refine PE.imp (pe_callB (call_isE y hz hf) hg hm bt_isi (pa_cons h1 (pa_cons h2 pa_nil he2) he) (by decide) (by decide) he hpl) fun σ H Q ⟨G, en, k⟩ => ⟨G, en, fun x H1 G1 g1 p1 => ⟨G1, en.grow g1, fun y H2 G2 g2 p2 => ?_⟩⟩
  obtain ⟨rfl, _⟩ := p1
  subst p2
  exact ⟨.ref D, .ref D, b, rfl, fun u r => by cases r; rfl, ia.i, k _ H2 G2 (g1.trans g2) (.bl _)⟩
theorem isA_mk {K : PySem.W.Frag} {b : Bool} (h : PySem.W.subIn K (.ref C) (.ref D) = some b) (hb : PySem.W.subIn K (.ref D) (.type "BaseException") = some true) (ht : PySem.W.typeIn K (.ref D) = some (.type "type")) (hc : PySem.W.isClsIn K D = true) (hs : PySem.W.subIn K (.ref D) (.ref D) = some true) : IsA K C D b := by
  have e : PySem.W.kitCls K (.ref C) (.ref D) = some b := by
    show (if ((PySem.W.clsIn K D).isSome && PySem.W.typeIn K (.ref D) == some (.type "type")) = true then PySem.W.subIn K (.ref C) (.ref D) else none) = some b
    have z : (PySem.W.clsIn K D).isSome = true := hc
    rw [z, ht, if_pos (by simp)]
    exact h
  constructor
  · unfold PySem.W.exmOne
    rw [hb, if_pos (by simp)]
    exact e
  · unfold PySem.W.kitOne
    split
    · rename_i q
      have q' : C = D := Value.ref.inj (beq_iff_eq.mp q)
      subst q'
      rw [hs] at h
      exact h
    · exact e
theorem hdn {hs : List ExceptHandler} {l : List (Value × List Stmt)} {c : Value} {st0 : Stmt} {sts : List Stmt} {np : Pos} (hm : X.mg x = some c) (r : HdN X n hs l) (hg : Gl X x := by rfl) (hdb : (x == ("__debug__" : Str)) = false := by decide) :
    HdN X n (.ExceptHandler (some (.Name x np)) (some n) (st0 :: sts) p2 :: hs) ((c, st0 :: sts) :: l) := .cons ⟨hg, hdb, .inl hm⟩ r
end
end UP

/-! PDy: x[::-1] of lists and tuples. -/
namespace UP
open PySem PySem.Spec PyProof.Rows L2
section
variable {prog : Program} {w : World} {A : Around} {E : Value → Shared → Prop} {s : Shared}
theorem slice_back {sl : Addr} {vl vu vs : Value} {n : Nat} {Q : Int × Int × Nat → Shared → Prop} (hs : s.heap.IsSliceOf sl vl vu vs) (pl : IsPart vl none) (pu : IsPart vu none) (ps : IsPart vs (some (-1))) (h : Q ((n : Int) - 1, -1, n) s) :
    wpAny (model prog w) A (Builtin.Slice.sliceApplied (.ref sl) (pure (n : Int))) Q E s := by
  obtain ⟨ob, hob, hcl, hfs⟩ := id hs
  unfold Builtin.Slice.sliceApplied Builtin.Slice.sliceFields
  refine wpAny_bind (wpAny_bind (wpAny_field hob hfs (x := vl) rfl (wpAny_bind (wpAny_field hob hfs (x := vu) rfl (wpAny_bind (wpAny_field hob hfs (x := vs) rfl (wpAny_pure ?_)))))))
  refine wpAny_bind (HT.slicePart_ ps ?_)
  show wpAny _ _ (if ((-1 : Int) == 0) = true then _ else _) _ _ s
  rw [if_neg (by decide)]
  refine wpAny_bind (HT.slicePart_ pl (wpAny_bind (HT.slicePart_ pu (wpAny_bind (wpAny_pure ?_)))))
  have e : Builtin.Slice.sliceAdjust none none (-1) (n : Int) = ((n : Int) - 1, -1) := rfl
  have e2 : Builtin.Slice.slicePlaces ((n : Int) - 1) (-1) (-1) = n := by
    unfold Builtin.Slice.slicePlaces
    rw [if_neg (by decide)]
    by_cases h : (n : Int) - 1 > -1
    · rw [if_pos h, show (- -1 : Int) = 1 by decide, Int.ediv_one]
      omega
    · rw [if_neg h]
      omega
  show wpAny _ _ (match Builtin.Slice.sliceAdjust none none (-1) (n : Int) with | (lo, hi) => pure (lo, (-1 : Int), Builtin.Slice.slicePlaces lo hi (-1))) _ _ s
  rw [e]
  show wpAny _ _ (pure ((n : Int) - 1, (-1 : Int), Builtin.Slice.slicePlaces ((n : Int) - 1) (-1) (-1))) _ _ s
  rw [e2]
  exact wpAny_pure h
theorem pick_back (xs : Array Value) : ((List.range xs.size).filterMap fun (k : Nat) => xs[(((xs.size : Int) - 1) + (k : Int) * -1).toNat]?).toArray = xs.toList.reverse.toArray := by
  have e : (List.range xs.size).filterMap (fun (k : Nat) => xs[(((xs.size : Int) - 1) + (k : Int) * -1).toNat]?) = ((List.range xs.size).map fun k => xs.size - 1 - k).filterMap (xs[·]?) := by
    have hc : ∀ (l : List Nat) (f g : Nat → Option Value), (∀ k ∈ l, f k = g k) → l.filterMap f = l.filterMap g := by
      intro l f g h
      induction l with
      | nil => rfl
      | cons x l ih =>
        rw [List.filterMap_cons, List.filterMap_cons, h x List.mem_cons_self, ih fun k hk => h k (List.mem_cons_of_mem _ hk)]
    rw [List.filterMap_map]
    refine hc _ _ _ fun k hk => ?_
    have := List.mem_range.mp hk
    show xs[_]? = xs[xs.size - 1 - k]?
    have e : (((xs.size : Nat) : Int) - 1 + (k : Int) * -1).toNat = xs.size - 1 - k := by omega
    rw [e]
  rw [e, PySem.W.krv_range, List.filterMap_reverse, PySem.W.krv_all]
theorem getItem_back {t sl : Addr} {items : Array Value} {vl vu vs : Value} {Q : Value → Shared → Prop} (ht : IsTup s.heap t items) (hs : s.heap.IsSliceOf sl vl vu vs) (pl : IsPart vl none) (pu : IsPart vu none) (ps : IsPart vs (some (-1)))
    (h : Q (.ref s.heap.objs.size) { s with heap := s.heap.push { cls := .type "tuple", data := .seq items.toList.reverse.toArray } }) (hsz : items.size ≤ sizeLine) : wpAny (model prog w) A (getItem (.ref t) (.ref sl)) Q E s := by
  have hz : sizeOk (.seq items.toList.reverse.toArray) := by
    show items.toList.reverse.toArray.size ≤ sizeLine
    rw [List.size_toArray, List.length_reverse, Array.length_toList]
    exact hsz
  obtain ⟨ob, hob, hcl, hfs⟩ := id hs
  have ty : s.TypeIs (.ref sl) "slice" := ⟨ob, hob, hcl⟩
  unfold getItem
  try with_reducible refine wpAny_holding ?_
  first | refine wpAny_bind (wpAny_pure ?_) | skip
  refine wpAny_bind (wpAny_sequenceKey ht.typeIs (by decide) (wpAny_bind (wpAny_callSpecial?_slot (name := Str.ofString "__getitem__") ht.typeIs PyProof.Rows.slot_tuple_getitem (wpAny_call_entry PyProof.Rows.slot_tuple_getitem ht.typeIs entry_tuple_getitem ?_ (args_tuple_getitem _ _)))))
  show wpAny _ _ (Builtin.Tuple.tupleItemsOf (.ref t) >>= _) _ _ s
  refine wpAny_bind (tupleItemsOf_ ht (wpAny_bind (wpAny_typeOf ty ?_)))
  rw [if_pos (by decide)]
  refine wpAny_bind (slice_back hs pl pu ps ?_)
  have hno : ¬ (((((items.size : Nat) : Int) - 1 == 0) && ((-1 : Int) == 1) && (items.size == items.size)) = true) := by simp
  show wpAny _ _ (if ((((items.size : Nat) : Int) - 1 == 0) && ((-1 : Int) == 1) && (items.size == items.size)) = true then _ else _) _ _ s
  rw [if_neg hno, pick_back]
  first
    | exact wpAny_bind (m := Builtin.Tuple.tupleExact _) (wpAny_newObj_type (wpAny_pure ⟨_, rfl, wpAny_pure h⟩) hz)
    | exact wpAny_bind (m := Builtin.Tuple.tupleExact _) (wpAny_newObj_type (wpAny_bind (wpAny_pure (wpAny_pure ⟨_, rfl, wpAny_pure h⟩))) hz)
    | exact wpAny_bind (wpAny_bind (m := Builtin.Tuple.tupleExact _) (wpAny_newObj_type (wpAny_pure (wpAny_pure ⟨_, rfl, wpAny_pure h⟩)) hz))
    | exact wpAny_bind (wpAny_bind (m := Builtin.Tuple.tupleExact _) (wpAny_newObj_type (wpAny_pure ⟨_, rfl, wpAny_pure h⟩) hz))
end
section
variable {X : Cx} {B : Bs} {ρ : DEnv} {e : Expr} {k : Nat} {p1 p2 p3 pos : Pos}
def tRevT (K : PySem.W.Frag) (te : TE) : TE := fun σ H Q => te σ H fun x H1 => ∃ a xs, x = .ref a ∧ SqT K H1 a xs ∧ ∀ p, H1 p = none → Q (.ref p) (upd H1 p (.tup xs.reverse))
theorem pe_revT {te : TE} (he : PE X e te) : PE X (.Subscript e (.Slice none none (some (.UnaryOp .USub (.Constant (.int 1) k p1) p2)) p3) pos) (tRevT X.K te) := by
  refine ⟨fun pins s σ H Q I h => Subscript_ (thn (he.run pins s σ H _ I h) ?_)⟩
  rintro v z1 ⟨x, H1, I1, r1, a, xs, rfl, hx, q⟩
  cases r1
  have st : PO X (some (.UnaryOp .USub (.Constant (.int 1) k p1) p2)) (tPart (tUn (rU fun i => .int (-i)) (tC (.int 1)))) := po_some (pe_un un_neg pe_int)
  refine wpAny_Slice (thn (po_none.run pins z1 σ H1 (fun o H2 => o = none ∧ H2 = H1) I1 ⟨rfl, rfl⟩) ?_)
  rintro vl z2 ⟨_, _, I2, pl, rfl, rfl⟩
  refine thn (po_none.run pins z2 σ _ (fun o H3 => o = none ∧ H3 = _) I2 ⟨rfl, rfl⟩) ?_
  rintro vu z3 ⟨_, _, I3, pu, rfl, rfl⟩
  refine thn (st.run pins z3 σ _ (fun o H4 => o = some (-1) ∧ H4 = _) I3 ⟨1, rfl, -1, rfl, rfl, rfl⟩) ?_
  rintro vs z4 ⟨_, H4, I4, ps, rfl, rfl⟩
  have I5 : Inv X pins σ H4 { z4 with heap := z4.heap.push { cls := .type "slice", data := .fields #[vl, vu, vs] } } := I4.kept (t' := z4.toks) fun b ob q => Heap.get?_push_of_some _ q
  obtain ⟨its, r, ht, hz⟩ := I5.tuple hx
  have hlen := r.length
  show wpAny (model X.prog X.w) X.A (subscriptTail e (.Slice none none (some (.UnaryOp .USub (.Constant (.int 1) k p1) p2)) p3) (.ref a) (.ref z4.heap.objs.size)) (EP X pins σ Q) X.xe { z4 with heap := z4.heap.push { cls := .type "slice", data := .fields #[vl, vu, vs] } }
  refine tail_any (ops := [.ref a, .ref z4.heap.objs.size]) ht.typeIs (PyProof.Rows.slot_tuple_getitem.lookup) ?_ (by with_unfolding_all rfl)
  refine getItem_back ht (Heap.IsSliceOf.new _ vl vu vs) pl pu ps ?_ (by rw [List.size_toArray]; omega)
  refine ⟨.ref _, _, I5.laid (t' := z4.toks) (o := .tup xs.reverse) (fun b ob q => Heap.get?_push_of_some _ q) (Nat.le_refl _) ?_, rfl, q _ (I5.hok.fresh (Nat.le_refl _))⟩
  exact ⟨by rw [List.length_reverse]; exact hz, _, r.reverse, _, Heap.get?_push_size _ rfl, rfl, 0, rfl⟩
theorem DqAll.rev {K : PySem.W.Frag} {G : Hp} : ∀ {vs : List V} {ds : List PyData}, DqAll K G vs ds → DqAll K G vs.reverse ds.reverse
  | _, _, .nil => .nil
  | _, _, .cons h r => by
    rw [List.reverse_cons, List.reverse_cons]
    exact (DqAll.rev r).append (.cons h .nil)
theorem ev_revT {ds : List PyData} (ha : EV X B ρ e (.tuple ds)) : EV X B ρ (.Subscript e (.Slice none none (some (.UnaryOp .USub (.Constant (.int 1) k p1) p2)) p3) pos) (.tuple ds.reverse) := by
  refine PE.imp (pe_revT ha) fun σ H Q ⟨G, en, k⟩ => ⟨G, en, fun v H1 G1 g1 p1 => ?_⟩
  obtain ⟨q, vs, rfl, h1, gq, z, dv⟩ := Dq.tuple g1.sub p1
  exact ⟨q, vs, rfl, h1, fun r hr => k _ _ _ (g1.trans (Grow.new g1.sub _ hr)) (.tup upd_same (by rw [List.length_reverse]; exact z) (DqAll.mono (same_upd (g1.sub.free hr)) _ dv.rev))⟩
theorem ev_revL {ds : List PyData} (ha : EVo X B ρ e (.list ds)) : EVf X B ρ (.Subscript e (.Slice none none (some (.UnaryOp .USub (.Constant (.int 1) k p1) p2)) p3) pos) ds.reverse := by
  refine PE.imp (pe_revL ha) fun σ H Q ⟨G, en, k⟩ => ⟨G, en, fun v H1 G1 g1 p1 => ?_⟩
  obtain ⟨q, vs, rfl, h1, z1, d1⟩ := DqO.list g1.sub p1
  exact ⟨q, vs, rfl, SqL.of h1, fun r hr => k r vs.reverse _ G1 (g1.trans (Grow.own g1.sub _ hr)) (g1.hh.free hr) (g1.sub.free hr) upd_same (by rw [List.length_reverse]; exact z1) d1.rev⟩
end
end UP

/-! PDz: xs[i] op= e, int(b), >= of tuples of ints. -/
namespace UP
open PySem PySem.Spec PyProof.Rows L2
section
variable {X : Cx} {B : Bs} {ρ : DEnv} {e a b : Expr} {pos p : Pos} {x : Str} {i : Nat} {E : DE}
theorem pget_list : PGet X (rIxL X.K) := by
  intro pins s σ H x y v u Q I rx ry h
  obtain ⟨q, xs, i, z, rfl, rfl, hq, he, k⟩ := h
  cases rx
  obtain ⟨t, rfl⟩ := ry
  obtain ⟨its, r, pl, hz⟩ := I.list hq
  obtain ⟨j, h1, h2, h3, h4, h5⟩ := atI_get he
  obtain ⟨w, ew, rw'⟩ := r.get h2
  have hl := r.length
  have hn := line63
  have fin : EP X pins σ Q w s := ⟨z, H, I, rw', k⟩
  by_cases h0 : 0 ≤ i
  · have hj : i.toNat = j := Option.some.inj ((seqIndex_of h0 h5).symm.trans h1)
    exact wpAny_getItem_list pl.isList h0 (by omega) (by rw [hj]; simpa using ew) fin
  · have hj : (i + (its.toArray.size : Int)).toNat = j := by
      rw [seqIndex_neg (by omega) h4] at h1
      rw [List.size_toArray, ← hl]
      exact Option.some.inj h1
    exact wpAny_getItem_list_neg pl.isList (by omega) (by rw [List.size_toArray] <;> omega) (by omega) (by rw [hj]; simpa using ew) fin
/-- xs[ix] op= e, whole numbers -/
theorem sd_augItem {ix : Expr} {ds : List PyData} {k m n : Int} {j : Nat} {op : Operator} {f : Int → Int → Int} {tpos : Pos} (ho : PIp X op (ipI f)) (hρ : ρ[i]? = some (.own X.K ds)) (hix : EV X B ρ ix (.int k)) (hk : ixN ds.length k = some j) (hget : ds[j]? = some (.int m)) (he : EV X B ρ e (.int n))
    (h : E.nx (ρ.set i (.own X.K (ds.set j (.int (f m n)))))) (hN : X.N[i]? = some x := by rfl) (hv : Vis X.env.scope x := by first | exact Or.inl rfl | exact Or.inr (Or.inl rfl) | exact Or.inr (Or.inr rfl))
    (hd : (x == ("__debug__" : Str)) = false := by decide) (hcd : (x == ("__classdict__" : Str)) = false := by decide)
    (ha : ∀ ov iv new, augStore ix ov iv new = (do holding [new, ov, iv] (setItem ov iv new); release [new, ov, iv] []; pure .next) := by intros; rfl) : SD X B ρ (.AugAssign (.Subscript (.Name x p) ix tpos) op e pos) E := by
  refine PS.imp (ps_augS (pe_var (i := i) hN hv hd hcd) hix pget_list he ho set_list ha) fun D σ H ⟨G, en, h1, _⟩ => ?_
  obtain ⟨q, vs, e1, e2, z, e3, e4, e5⟩ := en.getOwn hρ
  refine ⟨_, e1, G, en, fun w H2 G2 g2 p2 => ?_⟩
  cases p2
  obtain ⟨v, hv1, hv2⟩ := DqAll.get' e3 hget
  cases hv2
  refine ⟨q, vs, k, .int m, rfl, rfl, SqL.of (g2.hh _ _ e2), ?_, G2, en.grow g2, fun w H3 G3 g3 p3 => ?_⟩
  · unfold atI
    rw [e3.length, hk]
    exact hv1
  · cases p3
    have dv : DqAll X.K G3 (vs.set j (.int (f m n))) (ds.set j (.int (f m n))) := DqAll.set (.int _) j (DqAll.mono (g2.trans g3).gg _ e3)
    exact ⟨m, n, rfl, rfl, q, vs, k, j, rfl, rfl, (g2.trans g3).hh _ _ e2, by rw [e3.length]; exact hk, h1 _ σ G3 _ (g2.trans g3).gg ((en.grow (g2.trans g3)).putOwn hρ e1 (by rw [List.length_set]; exact z) dv) h⟩
/-- int(b) -/
theorem ev_intB {c : Bool} (hm : X.mg "int" = none) (ha : EV X B ρ e (.bool c)) (hg : Gl X "int" := by rfl) (he : starEach [e] X.env = [(false, eval e X.env)] := by rfl) : EV X B ρ (.Call (.Name "int" p) [e] [] pos) (.int (if c = true then 1 else 0)) :=
  ev_callT1 call_int1 hm bt_int ha (fun v G H Q s pv k => by
    cases pv
    exact .inr ⟨c, rfl, k _ H G (Grow.refl s) (.int _)⟩) hg (by decide) (by decide) he
/-! ### >= of tuples of ints -/
def geI (ns ms : List Int) : Bool := Ob.lexAt (fun j => decide (ns.getD j 0 = ms.getD j 0)) (fun j => decide (ms.getD j 0 ≤ ns.getD j 0)) (decide (ns.length ≥ ms.length)) 0 (min ns.length ms.length)
theorem geI_pair (a b c d : Int) : geI [a, b] [c, d] = if a = c then (if b = d then true else decide (d ≤ b)) else decide (c ≤ a) := by
  unfold geI
  show Ob.lexAt _ _ _ 0 2 = _
  rw [Ob.lexAt_succ, Ob.lexAt_succ, Ob.lexAt_zero]
  simp
def rGeT (K : PySem.W.Frag) : R2 := fun x y H Q => ∃ (a b : Addr) (ns ms : List Int), x = .ref a ∧ y = .ref b ∧ SqT K H a (ns.map V.int) ∧ SqT K H b (ms.map V.int) ∧ Q (.bl (geI ns ms)) H
theorem op_geT (hu : X.A.units < cLine) : OpR X (compareOp .GtE) (rGeT X.K) := by
  intro pins s σ H x y v u Q I rx ry h
  obtain ⟨t1, t2, ns, ms, rfl, rfl, ha, hb, k⟩ := h
  cases rx
  cases ry
  obtain ⟨its, r1, p1, _⟩ := I.tuple ha
  obtain ⟨its2, r2, p2, _⟩ := I.tuple hb
  have i1 : IntsAre its ns := Vals.ints r1
  have i2 : IntsAre its2 ms := Vals.ints r2
  have n1 : its.toArray.size = ns.length := by rw [List.size_toArray]; exact i1.length
  have n2 : its2.toArray.size = ms.length := by rw [List.size_toArray]; exact i2.length
  have g1 : ∀ j (hj : j < its.toArray.size), ∃ t, its.toArray[j] = .int (ns.getD j 0) t := fun j hj => PyProof.Rows.IntsAre.int_at i1 _ _ (by simp at hj; simp [hj])
  have g2 : ∀ j (hj : j < its2.toArray.size), ∃ t, its2.toArray[j] = .int (ms.getD j 0) t := fun j hj => PyProof.Rows.IntsAre.int_at i2 _ _ (by simp at hj; simp [hj])
  have R := Ob.RcOp.tuples_ge (A := X.A) (s := s) (e := fun j => decide (ns.getD j 0 = ms.getD j 0)) (r := fun j => decide (ms.getD j 0 ≤ ns.getD j 0)) p1 p2 hu (fun j q1 q2 => by
    obtain ⟨t, et⟩ := g1 j q1
    obtain ⟨t', et'⟩ := g2 j q2
    have z : (ns.getD j 0 == ms.getD j 0) = decide (ns.getD j 0 = ms.getD j 0) := by
      by_cases q : ns.getD j 0 = ms.getD j 0
      · rw [decide_eq_true q]; exact beq_iff_eq.mpr q
      · rw [decide_eq_false q]; exact beq_eq_false_iff_ne.mpr q
    rw [et, et', ← z]
    exact SeqAt.EqAt.int_int _ _ _ _) (fun j q1 q2 _ => by
    obtain ⟨t, et⟩ := g1 j q1
    obtain ⟨t', et'⟩ := g2 j q2
    rw [et, et']
    exact Ob.RcOp.ge_int _ _ _ _)
  rw [n1, n2] at R
  exact (R X.prog X.w X.xe (EP X pins σ Q) ⟨.bl _, H, I, rfl, k⟩ : wpAny (model X.prog X.w) X.A (compareOp .GtE (.ref t1) (.ref t2)) (EP X pins σ Q) X.xe s)
theorem tv_geT {ns ms : List Int} (hu : X.A.units + 65 < cLine) (ha : EV X B ρ a (encI ns)) (hb : EV X B ρ b (encI ms)) : TV X B ρ (.Compare a [.GtE] [b] pos) (geI ns ms) :=
  tv_cmpR (op_geT (by omega)) ha hb (nomark _) stb_d fun x y G H Q s h1 h2 k => by
    obtain ⟨q1, v1, rfl, s1, _, _, d1⟩ := Dq.tuple s h1
    obtain ⟨q2, v2, rfl, s2, _, _, d2⟩ := Dq.tuple s h2
    have e1 := DqAll.ints d1
    have e2 := DqAll.ints d2
    subst e1 e2
    exact ⟨q1, q2, ns, ms, rfl, rfl, s1, s2, k _ H G (Grow.refl s) (.bl _)⟩
end
end UP

/-! PDzz: t * k, k = 0, 1 too. -/
namespace UP
open PySem PySem.Spec PyProof.Rows L2
theorem mul_one (l : Addr) (items : Array Value) (n : Nat) (dd : Option Addr) (sl : Array (Option Value)) (u : Tok) :
    Meets (Builtin.«tuple.__mul__» ⟨[.ref l, .int 1 u], []⟩) (fun _ R s => s.heap.get? l = some { cls := .type "tuple", dict := dd, data := .seq items n, slots := sl } ∧ R (.ok (.ret (Value.ref l))) s) :=
  .of_wp fun prog w A R s h => by
    obtain ⟨hp, g, d, tk, os⟩ := s
    obtain ⟨hl, h⟩ := h
    have f1 := AutoSeq1.idx_int
    have c1 : (items.isEmpty || (1 : Int) == 1) = true := by simp
    wp_walk using wpAny_loadPart' hl
    repeat (first
      | (refine wpAny_ite_false (decide_eq_false (by decide)) ?_; wp_walk using wpAny_loadPart' hl)
      | (refine wpAny_ite_true (decide_eq_true c1) ?_; wp_walk using wpAny_loadPart' hl))
    exact ⟨_, rfl, h⟩
theorem mul_zero (l : Addr) (items : Array Value) (n : Nat) (dd : Option Addr) (sl : Array (Option Value)) (u : Tok) (c1 : items.isEmpty = false) :
    Meets (Builtin.«tuple.__mul__» ⟨[.ref l, .int 0 u], []⟩) (fun _ R s => s.heap.get? l = some { cls := .type "tuple", dict := dd, data := .seq items n, slots := sl } ∧ R (.ok (.ret (Value.ref s.heap.objs.size))) { s with heap := s.heap.push { cls := Value.type "tuple", data := Data.seq #[] }, toks := s.toks }) :=
  .of_wp fun prog w A R s h => by
    obtain ⟨hp, g, d, tk, os⟩ := s
    obtain ⟨hl, h⟩ := h
    have f1 := AutoSeq1.idx_int
    have c2 : ¬ (items.isEmpty || (0 : Int) == 1) = true := by rw [c1]; decide
    have c3 : (decide ((0 : Int) ≤ 0) || items.isEmpty) = true := by simp
    have c4 : ¬ ((#[] : Array Value).size > sizeLine) := by simp
    wp_walk using wpAny_loadPart' hl
    repeat (first
      | (refine wpAny_ite_false (decide_eq_false (by decide)) ?_; wp_walk using wpAny_loadPart' hl)
      | (refine wpAny_ite_false (decide_eq_false c2) ?_; wp_walk using wpAny_loadPart' hl)
      | (refine wpAny_ite_false (decide_eq_false c4) ?_; wp_walk using wpAny_loadPart' hl)
      | (refine wpAny_ite_true (decide_eq_true c3) ?_; wp_walk using wpAny_loadPart' hl))
    exact ⟨_, rfl, h⟩
def rRepS (K : PySem.W.Frag) : R2 := fun x y H Q => ∃ l k xs, x = .ref l ∧ y = .int k ∧ SqT K H l xs ∧ xs ≠ [] ∧ ((k = 1 ∧ Q (.ref l) H) ∨ (k = 0 ∧ ∀ p, H p = none → Q (.ref p) (upd H p (.tup []))))
section
variable {X : Cx} {B : Bs} {ρ : DEnv} {a b : Expr} {pos : Pos}
theorem op_repS : OpR X (binaryOp .Mult) (rRepS X.K) := by
  intro pins s σ H x y v u Q I rx ry h
  obtain ⟨l, k, xs, rfl, rfl, hT, hne, q⟩ := h
  cases rx
  obtain ⟨t, rfl⟩ := ry
  obtain ⟨its, r, ⟨⟨cls, dd, data, sl⟩, ho, hc, n, hd⟩, hs⟩ := I.tuple hT
  simp only at hc hd
  subst hc hd
  have hle : its.length = xs.length := r.length.symm
  have hi : its.toArray.isEmpty = false := by
    cases its with
    | nil => exact absurd (List.eq_nil_of_length_eq_zero hle.symm) hne
    | cons a b => rfl
  refine wpAny_binaryOp_repeat_ref (T := "tuple") (U := "int") (by decide) ⟨_, ho, rfl⟩ (fun s' => typeIs_int s' k t) noFill_tuple_mul F.fills_int_mul F.slot_int_rmul repeat_tuple F.slot_int_index.lookup
    (call_meets F.slot_int_rmul (typeIs_int s k t) F.entry_int_rmul (F.args_int_rmul_2 _ _) (int_rmul_tuple k t l its.toArray n dd sl) ⟨ho, rfl, ⟨_, ho, rfl⟩, ?_⟩)
  rcases q with ⟨rfl, q⟩ | ⟨rfl, q⟩
  · exact call_meets F.slot_tuple_mul ⟨_, ho, rfl⟩ F.entry_tuple_mul (F.args_tuple_mul_2 _ _) (mul_one l its.toArray n dd sl t) ⟨ho, .ref l, H, I, rfl, q⟩
  · refine call_meets F.slot_tuple_mul ⟨_, ho, rfl⟩ F.entry_tuple_mul (F.args_tuple_mul_2 _ _) (mul_zero l its.toArray n dd sl t hi) ⟨ho, ?_⟩
    refine ⟨.ref s.heap.objs.size, _, I.laid (t' := s.toks) (o := .tup []) (fun b ob q => Heap.get?_push_of_some _ q) (Nat.le_refl _) ?_, rfl, q _ (I.hok.fresh (Nat.le_refl _))⟩
    exact ⟨Nat.zero_le _, [], .nil, IsTup.new _ _⟩
theorem vals_rep {K : PySem.W.Frag} {G : Hp} {vs : List V} {ds : List PyData} (h : DqAll K G vs ds) : ∀ k : Nat, DqAll K G (List.replicate k vs).flatten (List.replicate k ds).flatten
  | 0 => .nil
  | k + 1 => by
    rw [List.replicate_succ, List.replicate_succ, List.flatten_cons, List.flatten_cons]
    exact h.append (vals_rep h k)
/-- t * k -/
theorem ev_repT {ds : List PyData} {k : Nat} (ha : EV X B ρ a (.tuple ds)) (hb : EV X B ρ b (.int (k : Int))) (hne : ds ≠ []) (hz : ds.length ≤ 1000) (hk : k ≤ 1000) : EV X B ρ (.BinOp a .Mult b pos) (.tuple (List.replicate k ds).flatten) := by
  have fl : ∀ (n : Nat) (vs : List V), (List.replicate n vs).flatten.length = n * vs.length := fun n vs => by
    induction n with
    | zero => simp
    | succ n ih => rw [List.replicate_succ, List.flatten_cons, List.length_append, ih, Nat.add_mul]; omega
  by_cases h2 : 2 ≤ k
  · refine ev_op op_repT ha hb stb_d fun x y G H Q s h1 h3 kk => ?_
    cases h3
    obtain ⟨q, vs, rfl, s1, gq, z, dv⟩ := Dq.tuple s h1
    refine ⟨q, (k : Int), vs, rfl, rfl, s1, fun e => hne (by rw [e] at dv; cases dv; rfl), by omega, by omega, by rw [dv.length]; exact hz, fun p hp => kk _ _ _ (Grow.new s _ hp) (.tup upd_same ?_ ?_)⟩
    · rw [Int.toNat_natCast, fl, dv.length]
      exact Nat.le_trans (Nat.mul_le_mul hk hz) (by decide)
    · rw [Int.toNat_natCast]
      exact DqAll.mono (same_upd (s.free hp)) _ (vals_rep dv k)
  · refine ev_op op_repS ha hb stb_d fun x y G H Q s h1 h3 kk => ?_
    cases h3
    obtain ⟨q, vs, rfl, s1, gq, z, dv⟩ := Dq.tuple s h1
    refine ⟨q, (k : Int), vs, rfl, rfl, s1, fun e => hne (by rw [e] at dv; cases dv; rfl), ?_⟩
    by_cases h1' : k = 1
    · subst h1'
      refine .inl ⟨rfl, kk _ H G (Grow.refl s) ?_⟩
      have : (List.replicate 1 ds).flatten = ds := by simp
      rw [this]
      exact h1
    · have : k = 0 := by omega
      subst this
      exact .inr ⟨rfl, fun p hp => kk _ _ _ (Grow.new s _ hp) (.tup upd_same (Nat.zero_le _) .nil)⟩
end
end UP

namespace UP
open PySem PySem.Spec L2
/-! ### what the package asks of its arguments -/
def inR (d : PyData) (lo hi : Int) : Bool := match d with
  | .int i => decide (lo ≤ i) && decide (i ≤ hi)
  | _ => false
theorem inR_nat {d : PyData} {n : Nat} : inR d 0 ((n : Int) - 1) = true ↔ ∃ m : Nat, d = encN m ∧ m < n := by
  constructor
  · intro h
    cases d <;> simp [inR] at h
    rename_i i
    exact ⟨i.toNat, by show PyData.int i = PyData.int (i.toNat : Int); rw [Int.toNat_of_nonneg h.1], by omega⟩
  · rintro ⟨m, rfl, h⟩
    simp [inR]
    omega
theorem inR_nat' {d : PyData} {n : Nat} : inR d 0 (n : Int) = true ↔ ∃ m : Nat, d = encN m ∧ m ≤ n := by
  constructor
  · intro h
    cases d <;> simp [inR] at h
    rename_i i
    exact ⟨i.toNat, by show PyData.int i = PyData.int (i.toNat : Int); rw [Int.toNat_of_nonneg h.1], by omega⟩
  · rintro ⟨m, rfl, h⟩
    simp [inR]
    omega
theorem all_nat {Q : Nat → Prop} : ∀ {ds : List PyData}, (∀ d ∈ ds, ∃ m : Nat, d = encN m ∧ Q m) → ∃ r : List Nat, ds = r.map encN ∧ ∀ x ∈ r, Q x
  | [], _ => ⟨[], rfl, fun _ h => by cases h⟩
  | d :: ds, h => by
    obtain ⟨m, e, q⟩ := h d List.mem_cons_self
    obtain ⟨r, e', q'⟩ := all_nat fun x hx => h x (List.mem_cons_of_mem _ hx)
    refine ⟨m :: r, by rw [e, e']; rfl, fun x hx => ?_⟩
    rcases List.mem_cons.mp hx with z | z
    · rw [z]; exact q
    · exact q' x z
theorem encN_inj {a b : Nat} (h : encN a = encN b) : a = b := by
  have h : ((a : Int)) = (b : Int) := PyData.int.inj h
  omega
theorem map_encN_inj : ∀ {r r' : List Nat}, r.map encN = r'.map encN → r = r'
  | [], [], _ => rfl
  | [], _ :: _, h => by cases h
  | _ :: _, [], h => by cases h
  | a :: r, b :: r', h => by
    rw [List.map_cons, List.map_cons] at h
    have h := List.cons.inj h
    rw [encN_inj h.1, map_encN_inj h.2]
theorem encR_inj {r r' : List Nat} (h : encR r = encR r') : r = r' := map_encN_inj (PyData.tuple.inj h)
theorem map_encR_inj : ∀ {r r' : List (List Nat)}, r.map encR = r'.map encR → r = r'
  | [], [], _ => rfl
  | [], _ :: _, h => by cases h
  | _ :: _, [], h => by cases h
  | a :: r, b :: r', h => by
    rw [List.map_cons, List.map_cons] at h
    have h := List.cons.inj h
    rw [encR_inj h.1, map_encR_inj h.2]
theorem encO_inj {r r' : List (List Nat)} (h : encO r = encO r') : r = r' := map_encR_inj (PyData.tuple.inj h)
/-- strictly ascending, below n -/
def Ris (r : List Nat) (n : Nat) : Prop := r.Pairwise (· < ·) ∧ ∀ x ∈ r, x < n
def RisD (d : PyData) (n : Nat) : Prop := ∃ r, d = encR r ∧ Ris r n
/-- neighbors in a list -/
theorem zip_tail {α : Type} : ∀ (l : List α), l.zip (l.drop 1) = (match l with | [] => [] | x :: r => (x :: r).zip r)
  | [] => rfl
  | _ :: _ => rfl
theorem rise_iff : ∀ (r : List Nat), (((r.zip (r.drop 1)).filter fun p => decide (p.2 ≤ p.1)).isEmpty = true) ↔ r.Pairwise (· < ·)
  | [] => by simp
  | [x] => by simp
  | x :: y :: r => by
    have ih := rise_iff (y :: r)
    have e : (x :: y :: r).zip ((x :: y :: r).drop 1) = (x, y) :: (y :: r).zip ((y :: r).drop 1) := rfl
    rw [e, List.filter_cons]
    by_cases h : y ≤ x
    · rw [if_pos (decide_eq_true h)]
      constructor
      · intro z; cases z
      · intro z
        have := (List.pairwise_cons.mp z).1 y List.mem_cons_self
        omega
    · rw [if_neg (by simpa using h), ih]
      constructor
      · intro z
        refine List.pairwise_cons.mpr ⟨fun w hw => ?_, z⟩
        rcases List.mem_cons.mp hw with q | q
        · omega
        · have := (List.pairwise_cons.mp z).1 w q
          omega
      · exact fun z => (List.pairwise_cons.mp z).2
theorem enumD_map {α : Type} (f : α → PyData) (l : List α) (d : α) : enumD (l.map f) = (List.range l.length).map fun i => pairD (encN i) (f (l.getD i d)) := by
  unfold enumD
  rw [List.length_map]
  refine List.map_congr_left fun i hi => ?_
  have hi := List.mem_range.mp hi
  rw [List.getD_eq_getElem?_getD, List.getElem?_map, List.getD_eq_getElem?_getD, List.getElem?_eq_getElem hi]
  rfl
theorem cut1 (ds : List PyData) : cutD ds (some 1) none = ds.drop 1 := by
  unfold cutD
  rw [show HT.sIx ds.length 0 (some 1) = min 1 ds.length from HT.sIx_nat ds.length 0 1, HT.sIx_none]
  cases ds with
  | nil => rfl
  | cons x r =>
    rw [show min 1 (x :: r).length = 1 by rw [List.length_cons]; omega]
    show (List.take ((x :: r).length - 1) r) = r
    rw [List.length_cons, Nat.add_sub_cancel]
    exact List.take_length
theorem zipD_map {α β : Type} (f : α → PyData) (g : β → PyData) (l : List α) (m : List β) : zipD (l.map f) (m.map g) = (l.zip m).map fun p => pairD (f p.1) (g p.2) := by
  unfold zipD
  rw [List.zip_map, List.map_map]
  rfl
theorem rows_of {n : Nat} : ∀ {ds : List PyData}, (∀ x ∈ ds, RisD x n) → ∃ o : List (List Nat), ds = o.map encR ∧ ∀ r ∈ o, Ris r n
  | [], _ => ⟨[], rfl, fun _ h => by cases h⟩
  | d :: ds, h => by
    obtain ⟨r, e, q⟩ := h d List.mem_cons_self
    obtain ⟨o, e', q'⟩ := rows_of fun x hx => h x (List.mem_cons_of_mem _ hx)
    refine ⟨r :: o, by rw [e, e']; rfl, fun x hx => ?_⟩
    rcases List.mem_cons.mp hx with z | z
    · rw [z]; exact q
    · exact q' x z
theorem sub_len : ∀ {l m : List Nat}, l.Nodup → (∀ x ∈ l, x ∈ m) → l.length ≤ m.length
  | [], _, _, _ => Nat.zero_le _
  | x :: l, m, h, hs => by
    have hx := hs x List.mem_cons_self
    have h' := List.nodup_cons.mp h
    have ih : l.length ≤ (m.erase x).length := sub_len h'.2 fun y hy => by
      have : y ≠ x := fun e => h'.1 (e ▸ hy)
      exact (List.mem_erase_of_ne this).mpr (hs y (List.mem_cons_of_mem _ hy))
    rw [List.length_erase_of_mem hx] at ih
    have : 0 < m.length := List.length_pos_of_mem hx
    rw [List.length_cons]
    omega
theorem nodup_len {r : List Nat} {n : Nat} (h : r.Nodup) (hb : ∀ x ∈ r, x < n) : r.length ≤ n := by
  have h1 := sub_len h fun x hx => List.mem_range.mpr (hb x hx)
  rwa [List.length_range] at h1
theorem rise_len {r : List Nat} {n : Nat} (h : r.Pairwise (· < ·)) (hb : ∀ x ∈ r, x < n) : r.length ≤ n := nodup_len (h.imp fun a => Nat.ne_of_lt a) hb
/-- orders -/
structure IsOrd (o : List (List Nat)) : Prop where
  pos : 1 ≤ o.length
  most : o.length ≤ 6
  rows : ∀ r ∈ o, Ris r o.length
  irr : ∀ (i : Nat) (r : List Nat), o[i]? = some r → i ∉ r
  tr : ∀ (i j : Nat) (r r' : List Nat), o[i]? = some r → j ∈ r → o[j]? = some r' → ∀ k ∈ r', k ∈ r
def IsOrdD (d : PyData) : Prop := ∃ o, d = encO o ∧ IsOrd o
/-- weights on n points -/
def IsW (n : Nat) (v : List Nat) : Prop := v.length = n ∧ v.sum ≤ 9
def IsWD (n : Nat) (d : PyData) : Prop := ∃ v, d = encR v ∧ IsW n v
theorem le_sum : ∀ {v : List Nat} {x : Nat}, x ∈ v → x ≤ v.sum
  | y :: v, x, h => by
    rw [List.sum_cons]
    rcases List.mem_cons.mp h with e | e
    · omega
    · have := le_sum e; omega
/-- the exception classes of the package, by their addresses -/
structure Cl where
  me : Addr
  io : Addr
  iw : Addr
  ip : Addr
  ia : Addr
  cr : Addr
  ca : Addr
  cm : Addr
  nu : Addr
  pe : Addr
theorem filt_true {α : Type} (l : List α) : (l.filter fun _ => true) = l := List.filter_eq_self.mpr fun _ _ => rfl
theorem rep_one {α : Type} (n : Nat) (x : α) : (List.replicate n [x]).flatten = List.replicate n x := by
  induction n with
  | zero => rfl
  | succ n ih => rw [List.replicate_succ, List.flatten_cons, ih]; rfl
theorem retB {c c' : Bool} (h : c = c') : Out.ret (.bool c) = Out.ret (.bool c') := by rw [h]
section
variable {X : Cx} {B : Bs} {ρ : DEnv} {e tg : Expr} {ds : List PyData}
theorem sd_lenT {sts : List Stmt} {E : DE} {i : Nat} (hi : ρ[i]? = some (.d (.tuple ds))) (h : ds.length ≤ sizeLine → SDs X B ρ sts E) : SDs X B ρ sts E := ⟨fun pins s σ H D I q => by
  obtain ⟨G, en, r⟩ := id q
  obtain ⟨v, e, dd⟩ := en.get hi
  cases dd with
  | tup h1 h2 h3 => exact (h (by rw [← h3.length]; exact h2)).run pins s σ H D I q⟩
theorem sd_lenL {sts : List Stmt} {E : DE} {i : Nat} (hi : ρ[i]? = some (.d (.list ds))) (h : ds.length ≤ sizeLine → SDs X B ρ sts E) : SDs X B ρ sts E := ⟨fun pins s σ H D I q => by
  obtain ⟨G, en, r⟩ := id q
  obtain ⟨v, e, dd⟩ := en.get hi
  cases dd with
  | lst h1 h2 h3 => exact (h (by rw [← h3.length]; exact h2)).run pins s σ H D I q⟩
theorem Le.trans : ∀ {r r' r'' : DEnv}, Le r r' → Le r' r'' → Le r r''
  | [], [], [], _, _ => True.intro
  | s :: r, s' :: r', s'' :: r'', h1, h2 => ⟨by
      rcases h2.1 with z | z
      · exact .inl z
      · rw [z]; exact h1.1, Le.trans h1.2 h2.2⟩
  | [], [], _ :: _, _, h => h.elim
  | [], _ :: _, _, h, _ => h.elim
  | _ :: _, [], _, h, _ => h.elim
  | _ :: _, _ :: _, [], _, h => h.elim
theorem gv_weak {d : PyData} {vs : List Nat} {ρ1 ρ' : DEnv} (le : Le ρ ρ1) (h : GV X B ρ1 tg d vs ρ') : GV X B ρ tg d vs ρ' := PG.imp h fun v σ H Q ⟨G, en, q⟩ => ⟨G, en.weak le, q⟩
/-- a loop, by what the slots hold between its turns -/
theorem sd_forW {α : Type} {xs : List α} {f : α → PyData} {iter : Expr} {body : List Stmt} {E : DE} {pos : Pos} (ρw : Nat → DEnv) (C : Nat → Prop) (vs : List Nat) (ρ' : Nat → α → DEnv) (po : PassesOwn (model X.prog X.w) X.A X.env X.xe) (hc : X.calm = true) (hi : IV X B ρ tg iter (xs.map f)) (h0 : Le ρ (ρw 0)) (c0 : C 0)
    (hg : ∀ (i : Nat) (y : α), xs[i]? = some y → C i → GV X B (ρw i) tg (f y) vs (ρ' i y))
    (hs : ∀ (i : Nat) (y : α), xs[i]? = some y → C i → SDs X B (ρ' i y) body { E with nx := fun ρ => Le ρ (ρw (i + 1)) ∧ C (i + 1), ct := fun ρ => Le ρ (ρw (i + 1)) ∧ C (i + 1), bk := E.nx }) (hd : ∀ ρn, Le ρn (ρw xs.length) → C xs.length → E.nx ρn)
    (hsi : ∀ x, foldedSetIterable iter X.env x = pure x := by intro _; rfl) : SD X B ρ (.For tg iter body [] pos) E :=
  sd_for (fun i ρ => Le ρ (ρw i) ∧ C i) vs po hc hi ⟨h0, c0⟩ (fun i y ρi hy ⟨le, c⟩ => ⟨ρ' i y, gv_weak le (hg i y hy c), hs i y hy c⟩) (fun ρn ⟨le, c⟩ => hd ρn le c) hsi
theorem rep_all {K : PySem.W.Frag} {G : Hp} {vs : List V} (d1 : DqAll K G vs ds) : ∀ k : Nat, DqAll K G (List.replicate k vs).flatten (List.replicate k ds).flatten
  | 0 => .nil
  | k + 1 => by
    rw [List.replicate_succ, List.flatten_cons, List.replicate_succ, List.flatten_cons]
    exact DqAll.append d1 (rep_all d1 k)
/-- [..] * k -/
theorem ev_rep {a b : Expr} {pos : Pos} {k : Nat} (ha : EVo X B ρ a (.list ds)) (hb : EV X B ρ b (encN k)) (hz : ds.length ≤ 1000 ∧ k ≤ 1000) : EVf X B ρ (.BinOp a .Mult b pos) (List.replicate k ds).flatten := by
  refine PE.imp (pe_op op_rep ha hb) fun σ H Q ⟨G, en, kk⟩ => ⟨G, en, fun x H1 G1 g1 p1 => ⟨G1, en.grow g1, fun y H2 G2 g2 p2 => ?_⟩⟩
  cases p2
  obtain ⟨q, vs, rfl, h1, z1, d1⟩ := DqO.list g2.sub (stb_o _ _ _ _ _ g2 p1)
  have g := g1.trans g2
  have hl : vs.length * ((k : Int)).toNat ≤ sizeLine := by
    rw [d1.length, Int.toNat_natCast]
    exact Nat.le_trans (Nat.mul_le_mul hz.1 hz.2) (by decide)
  refine ⟨q, (k : Int), vs, rfl, rfl, h1, by omega, by omega, hl, fun r hr => kk r _ _ G2 (g.trans (Grow.own g2.sub _ hr)) (g.hh.free hr) (g2.sub.free hr) upd_same (by have e : (List.replicate ((k : Int)).toNat vs).flatten.length = ((k : Int)).toNat * vs.length := (by simp); rw [e, Nat.mul_comm]; exact hl) ?_⟩
  rw [Int.toNat_natCast]
  exact rep_all d1 k
theorem IV.id (h : IV X B ρ tg e ds) : IV X B ρ tg e (ds.map fun x => x) := by rw [List.map_id']; exact h
theorem IV.to {ds' : List PyData} (h : IV X B ρ tg e ds) (q : ds = ds') : IV X B ρ tg e ds' := q ▸ h
end
end UP

namespace UP
open PySem PySem.Spec L2
/-! ### sets of points, closed sets -/
abbrev above (o : List (List Nat)) (p : Nat) : List Nat := o.getD p []
def clo (o : List (List Nat)) (s : List Nat) : Bool := s.all fun p => (above o p).all fun m => decide (m ∈ s)
def subs : Nat → List (List Nat)
  | 0 => [[]]
  | n + 1 => subs n ++ (subs n).map (· ++ [n])
theorem subs_len : ∀ n, (subs n).length = 2 ^ n
  | 0 => rfl
  | n + 1 => by
    show (subs n ++ (subs n).map (· ++ [n])).length = _
    rw [List.length_append, List.length_map, subs_len n, Nat.pow_succ]
    omega
theorem mem_subs : ∀ (n : Nat) (s : List Nat), s ∈ subs n ↔ Ris s n
  | 0, s => by
    show s ∈ [[]] ↔ _
    rw [List.mem_singleton]
    constructor
    · rintro rfl; exact ⟨List.Pairwise.nil, fun _ h => by cases h⟩
    · rintro ⟨_, h⟩
      cases s with
      | nil => rfl
      | cons x s => exact absurd (h x List.mem_cons_self) (Nat.not_lt_zero _)
  | n + 1, s => by
    show s ∈ subs n ++ (subs n).map (· ++ [n]) ↔ _
    rw [List.mem_append, mem_subs n s, List.mem_map]
    constructor
    · rintro (⟨h1, h2⟩ | ⟨t, ht, rfl⟩)
      · exact ⟨h1, fun x hx => Nat.lt_succ_of_lt (h2 x hx)⟩
      · obtain ⟨h1, h2⟩ := (mem_subs n t).mp ht
        refine ⟨List.pairwise_append.mpr ⟨h1, List.pairwise_singleton _ _, fun x hx y hy => ?_⟩, fun x hx => ?_⟩
        · rw [List.mem_singleton.mp hy]; exact h2 x hx
        · rcases List.mem_append.mp hx with z | z
          · exact Nat.lt_succ_of_lt (h2 x z)
          · rw [List.mem_singleton.mp z]; exact Nat.lt_succ_self _
    · rintro ⟨h1, h2⟩
      by_cases hn : n ∈ s
      · right
        obtain ⟨a, b, e⟩ := List.append_of_mem hn
        have hb : b = [] := by
          cases b with
          | nil => rfl
          | cons y b =>
            have hy : y ∈ s := by rw [e]; simp
            have := h2 y hy
            rw [e] at h1
            have h3 := (List.pairwise_append.mp h1).2.1
            have := (List.pairwise_cons.mp h3).1 y List.mem_cons_self
            omega
        subst hb
        refine ⟨a, (mem_subs n a).mpr ⟨?_, fun x hx => ?_⟩, e.symm⟩
        · rw [e] at h1; exact (List.pairwise_append.mp h1).1
        · rw [e] at h1; exact (List.pairwise_append.mp h1).2.2 x hx n List.mem_cons_self
      · left
        refine ⟨h1, fun x hx => ?_⟩
        have a := h2 x hx
        have : x ≠ n := fun z => hn (z ▸ hx)
        omega
theorem subs_nodup : ∀ n, (subs n).Nodup
  | 0 => List.nodup_cons.mpr ⟨by simp, List.nodup_nil⟩
  | n + 1 => by
    show (subs n ++ (subs n).map (· ++ [n])).Nodup
    refine List.nodup_append.mpr ⟨subs_nodup n, ?_, fun a ha b hb e => ?_⟩
    · refine List.Pairwise.map _ (fun a b h e => h ?_) (subs_nodup n)
      exact List.append_cancel_right e
    · obtain ⟨t, _, rfl⟩ := List.mem_map.mp hb
      have := ((mem_subs n a).mp ha).2 n (by rw [e]; simp)
      omega
/-! ### sorted lists of naturals -/
def lexN : List Nat → List Nat → Bool
  | [], [] => false
  | [], _ :: _ => true
  | _ :: _, [] => false
  | x :: xs, y :: ys => if x = y then lexN xs ys else decide (x < y)
def castL (r : List Nat) : List Int := r.map fun n : Nat => (n : Int)
theorem lex_cast : ∀ a b : List Nat, HT.lexLt (castL a) (castL b) = lexN a b
  | [], [] => rfl
  | [], _ :: _ => rfl
  | _ :: _, [] => rfl
  | x :: xs, y :: ys => by
    show HT.lexLt ((x : Int) :: castL xs) ((y : Int) :: castL ys) = _
    rw [HT.lexLt_cons, lex_cast xs ys]
    show _ = if x = y then lexN xs ys else decide (x < y)
    by_cases h : x = y
    · rw [if_pos h, if_pos (by omega)]
    · rw [if_neg h, if_neg (by omega)]
      by_cases h2 : x < y
      · rw [decide_eq_true h2]; exact decide_eq_true (by omega)
      · rw [decide_eq_false h2]; exact decide_eq_false (by omega)
def insN (n : List Nat) : List (List Nat) → List (List Nat)
  | [] => [n]
  | m :: r => if lexN m n then m :: insN n r else n :: m :: r
def sortN (xs : List (List Nat)) : List (List Nat) := xs.foldr insN []
theorem insN_cast (n : List Nat) : ∀ l : List (List Nat), insT (castL n) (l.map castL) = (insN n l).map castL
  | [] => rfl
  | m :: r => by
    rw [List.map_cons]
    unfold insT insN
    rw [lex_cast]
    split
    · rw [List.map_cons, insN_cast n r]
    · rfl
theorem sortN_cast : ∀ xs : List (List Nat), sortT (xs.map castL) = (sortN xs).map castL
  | [] => rfl
  | x :: xs => by
    show insT (castL x) (sortT (xs.map castL)) = (insN x (sortN xs)).map castL
    rw [sortN_cast xs, insN_cast]
theorem castL_inj {a b : List Nat} (h : castL a = castL b) : a = b := by
  have : a.map encN = b.map encN := by rw [mapN, mapN]; exact congrArg (List.map PyData.int) h
  exact map_encN_inj this
theorem encI_cast (r : List Nat) : encI (castL r) = encR r := (encR_I r).symm
theorem mapI_cast (xs : List (List Nat)) : (xs.map castL).map encI = xs.map encR := by
  rw [List.map_map]
  exact List.map_congr_left fun r _ => encI_cast r
theorem insN_perm {n : List Nat} : ∀ {l : List (List Nat)}, (insN n l).Perm (n :: l)
  | [] => List.Perm.refl _
  | m :: r => by
    unfold insN
    split
    · exact ((insN_perm (l := r)).cons m).trans (List.Perm.swap n m r)
    · exact List.Perm.refl _
theorem sortN_perm : ∀ xs : List (List Nat), (sortN xs).Perm xs
  | [] => List.Perm.refl _
  | x :: xs => (insN_perm (l := sortN xs)).trans ((sortN_perm xs).cons x)
def SrtN (l : List (List Nat)) : Prop := l.Pairwise fun x y => lexN y x = false
theorem srtN_cast {l : List (List Nat)} : SrtN l ↔ SrtT (l.map castL) := by
  unfold SrtN SrtT
  rw [List.pairwise_map]
  simp only [lex_cast]
theorem sortN_sorted (xs : List (List Nat)) : SrtN (sortN xs) := by
  rw [srtN_cast, ← sortN_cast]
  exact sortT_sorted _
theorem map_castL_inj : ∀ {l m : List (List Nat)}, l.map castL = m.map castL → l = m
  | [], [], _ => rfl
  | [], _ :: _, h => by cases h
  | _ :: _, [], h => by cases h
  | a :: l, b :: m, h => by
    rw [List.map_cons, List.map_cons] at h
    have h := List.cons.inj h
    rw [castL_inj h.1, map_castL_inj h.2]
theorem srtN_uniq {l m : List (List Nat)} (hl : SrtN l) (hm : SrtN m) (h : l.Perm m) : l = m :=
  map_castL_inj (srtT_uniq (srtN_cast.mp hl) (srtN_cast.mp hm) (h.map castL))
theorem mem_sortN {x : List Nat} {xs : List (List Nat)} : x ∈ sortN xs ↔ x ∈ xs := (sortN_perm xs).mem_iff
/-- all closed sets, ascending -/
def closedSets (o : List (List Nat)) : List (List Nat) := sortN ((subs o.length).filter (clo o))
theorem mem_closed {o : List (List Nat)} {s : List Nat} : s ∈ closedSets o ↔ Ris s o.length ∧ clo o s = true := by
  unfold closedSets
  rw [mem_sortN, List.mem_filter, mem_subs]
theorem clo_iff {o : List (List Nat)} {s : List Nat} : clo o s = true ↔ ∀ p ∈ s, ∀ m ∈ above o p, m ∈ s := by
  unfold clo
  simp
theorem closed_len (o : List (List Nat)) (h : o.length ≤ 6) : (closedSets o).length ≤ 64 := by
  unfold closedSets
  rw [(sortN_perm _).length_eq]
  refine Nat.le_trans (List.length_filter_le _ _) ?_
  rw [subs_len]
  exact Nat.le_trans (Nat.pow_le_pow_right (by decide) h) (by decide)
theorem closed_nodup (o : List (List Nat)) : (closedSets o).Nodup := (sortN_perm _).nodup_iff.mpr ((subs_nodup _).filter _)
theorem IsOrd.row {o : List (List Nat)} (h : IsOrd o) {p : Nat} (hp : p < o.length) : o[p]? = some (above o p) := by
  show o[p]? = some (o.getD p [])
  rw [List.getD_eq_getElem?_getD, List.getElem?_eq_getElem hp]; rfl
theorem IsOrd.ris {o : List (List Nat)} (h : IsOrd o) {p : Nat} (hp : p < o.length) : Ris (above o p) o.length := h.rows _ (List.mem_of_getElem? (h.row hp))
theorem IsOrd.rowz {o : List (List Nat)} (h : IsOrd o) {p : Nat} (hp : p < o.length) : (above o p).length ≤ 6 := Nat.le_trans (rise_len (h.ris hp).1 (h.ris hp).2) h.most
theorem z6 {n : Nat} (h : n ≤ 6) : n ≤ sizeLine := Nat.le_of_lt (small1000 (by omega))
theorem z1000 {n : Nat} (h : n ≤ 1000) : n ≤ sizeLine := Nat.le_of_lt (small1000 h)
end UP

namespace UP
open PySem PySem.Spec L2
/-! ### what the laws draw of a script -/
def cellAt (s : List Int) (k : Nat) : Int := s.getD k 0
def rowStep (s : List Int) (at_ : Nat) (st : Int × List Int) (t : Nat) : Int × List Int :=
  if cellAt s at_ < 10 ^ 18 then
    let c := (st.1 * 48271 + 131 * (t : Int) + 7 + cellAt s ((at_ + 1 + t) % 20)) % 2147483647
    (c, st.2 ++ [c / 11 % 1000])
  else (st.1 / 1000, st.2 ++ [st.1 % 1000])
def rowN (s : List Int) (at_ : Nat) : Nat → Int × List Int
  | 0 => (cellAt s at_, [])
  | t + 1 => rowStep s at_ (rowN s at_ t) t
theorem rowN_len (s : List Int) (at_ : Nat) : ∀ t, (rowN s at_ t).2.length = t
  | 0 => rfl
  | t + 1 => by
    show (rowStep s at_ (rowN s at_ t) t).2.length = t + 1
    unfold rowStep
    split <;> simp [rowN_len s at_ t]
theorem rowN_nn (s : List Int) (at_ : Nat) : ∀ t, ∀ x ∈ (rowN s at_ t).2, 0 ≤ x
  | 0 => fun x h => by cases h
  | t + 1 => by
    intro x hx
    have hx : x ∈ (rowStep s at_ (rowN s at_ t) t).2 := hx
    unfold rowStep at hx
    split at hx
    · rcases List.mem_append.mp hx with h | h
      · exact rowN_nn s at_ t x h
      · rw [List.mem_singleton.mp h]; omega
    · rcases List.mem_append.mp hx with h | h
      · exact rowN_nn s at_ t x h
      · rw [List.mem_singleton.mp h]; omega
/-- the i-th drawn number -/
def draw (s : List Int) (at_ : Nat) (i : Nat) : Nat := ((rowN s at_ 60).2.getD i 0).toNat
theorem row_data (s : List Int) (at_ : Nat) : (rowN s at_ 60).2.map PyData.int = (List.range 60).map fun i => encN (draw s at_ i) := by
  refine List.ext_getElem? fun i => ?_
  rw [List.getElem?_map, List.getElem?_map]
  by_cases h : i < 60
  · have hl : i < (rowN s at_ 60).2.length := by rw [rowN_len]; exact h
    rw [List.getElem?_range h, List.getElem?_eq_getElem hl]
    show some (PyData.int _) = some (PyData.int ((((rowN s at_ 60).2.getD i 0).toNat : Nat) : Int))
    have e : (rowN s at_ 60).2.getD i 0 = (rowN s at_ 60).2[i] := by rw [List.getD_eq_getElem?_getD, List.getElem?_eq_getElem hl]; rfl
    rw [e, Int.toNat_of_nonneg (rowN_nn s at_ 60 _ (List.getElem_mem hl))]
  · rw [List.getElem?_eq_none (by rw [rowN_len]; omega), List.getElem?_eq_none (by simpa using h)]; rfl
abbrev drawsD (D : Nat → Nat) : PyData := .list ((List.range 60).map fun i => encN (D i))
theorem draw_at (D : Nat → Nat) {i : Nat} (h : i < 60) : atI ((List.range 60).map fun i => encN (D i)) ((i : Nat) : Int) = some (encN (D i)) := atI_nat (by rw [List.getElem?_map, List.getElem?_range h]; rfl)
/-! ### weights -/
def bump (v : List Nat) (p : Nat) : List Nat := v.set p (v.getD p 0 + 1)
theorem sum_set : ∀ (v : List Nat) (p x : Nat), p < v.length → (v.set p x).sum + v.getD p 0 = v.sum + x
  | [], p, x, h => absurd h (Nat.not_lt_zero _)
  | y :: v, 0, x, _ => by
    show (x :: v).sum + y = (y :: v).sum + x
    rw [List.sum_cons, List.sum_cons]; omega
  | y :: v, p + 1, x, h => by
    have := sum_set v p x (by simpa using h)
    show (y :: v.set p x).sum + v.getD p 0 = (y :: v).sum + x
    rw [List.sum_cons, List.sum_cons]; omega
theorem bump_sum {v : List Nat} {p : Nat} (h : p < v.length) : (bump v p).sum = v.sum + 1 := by
  have := sum_set v p (v.getD p 0 + 1) h
  unfold bump; omega
theorem bump_len (v : List Nat) (p : Nat) : (bump v p).length = v.length := by unfold bump; simp
def wtsN (D : Nat → Nat) (n : Nat) : Nat → List Nat
  | 0 => List.replicate n 0
  | t + 1 => bump (wtsN D n t) (D (1 + t) % n)
def lawW (D : Nat → Nat) (n most : Nat) : List Nat := wtsN D n (D 0 % (most + 1))
theorem wtsN_len (D : Nat → Nat) (n : Nat) : ∀ t, (wtsN D n t).length = n
  | 0 => List.length_replicate
  | t + 1 => (bump_len _ _).trans (wtsN_len D n t)
theorem wtsN_sum (D : Nat → Nat) {n : Nat} (h : 0 < n) : ∀ t, (wtsN D n t).sum = t
  | 0 => by
    show (List.replicate n 0).sum = 0
    simp
  | t + 1 => by
    show (bump (wtsN D n t) (D (1 + t) % n)).sum = t + 1
    rw [bump_sum (by rw [wtsN_len]; exact Nat.mod_lt _ h), wtsN_sum D h t]
theorem lawW_ok (D : Nat → Nat) {n most : Nat} (h : 0 < n) (hm : most ≤ 9) : IsW n (lawW D n most) ∧ (lawW D n most).sum ≤ most := by
  have e := wtsN_sum D h (D 0 % (most + 1))
  have : D 0 % (most + 1) < most + 1 := Nat.mod_lt (D 0) (Nat.succ_pos most)
  exact ⟨⟨wtsN_len D n _, by unfold lawW; omega⟩, by unfold lawW; omega⟩
/-! ### the drawn order -/
def addRow (rows : List (List Nat)) (found : List Nat) (one : Nat) : List Nat := found ++ (above rows one).filter fun m => !decide (m ∈ found)
def pass (rows : List (List Nat)) (found : List Nat) : List Nat := found.foldl (addRow rows) found
def passes (rows : List (List Nat)) : Nat → List Nat → List Nat
  | 0, f => f
  | k + 1, f => pass rows (passes rows k f)
def clos (rows : List (List Nat)) (p : Nat) : List Nat := passes rows rows.length (above rows p)
structure Rows (rows : List (List Nat)) : Prop where
  nd : ∀ r ∈ rows, r.Nodup
  lt : ∀ r ∈ rows, ∀ x ∈ r, x < rows.length
theorem Rows.nd' {rows : List (List Nat)} (R : Rows rows) (p : Nat) : (above rows p).Nodup := by
  show (rows.getD p []).Nodup
  rw [List.getD_eq_getElem?_getD]
  cases e : rows[p]? with
  | none => exact List.nodup_nil
  | some r => exact R.nd r (List.mem_of_getElem? e)
theorem Rows.lt' {rows : List (List Nat)} (R : Rows rows) (p : Nat) : ∀ x ∈ above rows p, x < rows.length := by
  show ∀ x ∈ rows.getD p [], x < rows.length
  rw [List.getD_eq_getElem?_getD]
  cases e : rows[p]? with
  | none => intro x h; cases h
  | some r => exact R.lt r (List.mem_of_getElem? e)
/-- found so far: no point twice, all below n -/
def Fd (n : Nat) (f : List Nat) : Prop := f.Nodup ∧ ∀ x ∈ f, x < n
theorem addRow_fd {rows : List (List Nat)} (R : Rows rows) {f : List Nat} {one : Nat} (h : Fd rows.length f) : Fd rows.length (addRow rows f one) := by
  refine ⟨List.nodup_append.mpr ⟨h.1, (R.nd' one).filter _, fun a ha b hb e => ?_⟩, fun x hx => ?_⟩
  · have := (List.mem_filter.mp hb).2
    rw [← e, decide_eq_true ha] at this
    cases this
  · rcases List.mem_append.mp hx with z | z
    · exact h.2 x z
    · exact R.lt' one x (List.mem_filter.mp z).1
theorem fold_fd {rows : List (List Nat)} (R : Rows rows) : ∀ (l f : List Nat), Fd rows.length f → Fd rows.length (l.foldl (addRow rows) f)
  | [], f, h => h
  | x :: l, f, h => fold_fd R l _ (addRow_fd R h)
theorem mem_addRow {rows : List (List Nat)} {f : List Nat} {one x : Nat} : x ∈ addRow rows f one ↔ x ∈ f ∨ x ∈ above rows one := by
  unfold addRow
  rw [List.mem_append, List.mem_filter]
  constructor
  · rintro (h | h)
    · exact .inl h
    · exact .inr h.1
  · rintro (h | h)
    · exact .inl h
    · by_cases q : x ∈ f
      · exact .inl q
      · exact .inr ⟨h, by rw [decide_eq_false q]; rfl⟩
theorem mem_fold {rows : List (List Nat)} {x : Nat} : ∀ {l f : List Nat}, x ∈ l.foldl (addRow rows) f ↔ x ∈ f ∨ ∃ y ∈ l, x ∈ above rows y
  | [], f => by simp
  | y :: l, f => by
    show x ∈ l.foldl (addRow rows) (addRow rows f y) ↔ _
    rw [mem_fold, mem_addRow]
    constructor
    · rintro ((h | h) | ⟨z, hz, h⟩)
      · exact .inl h
      · exact .inr ⟨y, List.mem_cons_self, h⟩
      · exact .inr ⟨z, List.mem_cons_of_mem _ hz, h⟩
    · rintro (h | ⟨z, hz, h⟩)
      · exact .inl (.inl h)
      · rcases List.mem_cons.mp hz with e | e
        · subst e; exact .inl (.inr h)
        · exact .inr ⟨z, e, h⟩
theorem mem_pass {rows : List (List Nat)} {x : Nat} {f : List Nat} : x ∈ pass rows f ↔ x ∈ f ∨ ∃ y ∈ f, x ∈ above rows y := mem_fold
theorem fold_len {rows : List (List Nat)} : ∀ (l f : List Nat), f.length ≤ (l.foldl (addRow rows) f).length
  | [], f => Nat.le_refl _
  | x :: l, f => Nat.le_trans (by unfold addRow; rw [List.length_append]; omega) (fold_len l (addRow rows f x))
/-- closed under the rows -/
def Shut (rows : List (List Nat)) (f : List Nat) : Prop := ∀ y ∈ f, ∀ x ∈ above rows y, x ∈ f
theorem fold_grow {rows : List (List Nat)} {y x : Nat} : ∀ (l f : List Nat), y ∈ l → x ∈ above rows y → x ∉ f → f.length < (l.foldl (addRow rows) f).length
  | [], f, h, _, _ => by cases h
  | z :: l, f, h, hx, hn => by
    by_cases hz : x ∈ above rows z
    · have : f.length < (addRow rows f z).length := by
        unfold addRow
        rw [List.length_append]
        have : x ∈ (above rows z).filter fun m => !decide (m ∈ f) := List.mem_filter.mpr ⟨hz, by rw [decide_eq_false hn]; rfl⟩
        have := List.length_pos_of_mem this
        omega
      exact Nat.lt_of_lt_of_le this (fold_len l _)
    · have hy : y ∈ l := by
        rcases List.mem_cons.mp h with e | e
        · rw [e] at hx; exact absurd hx hz
        · exact e
      have hn' : x ∉ addRow rows f z := fun q => by
        rcases mem_addRow.mp q with q | q
        · exact hn q
        · exact hz q
      have := fold_grow l (addRow rows f z) hy hx hn'
      exact Nat.lt_of_le_of_lt (by unfold addRow; rw [List.length_append]; omega) this
theorem pass_shut {rows : List (List Nat)} {f : List Nat} (h : Shut rows f) : Shut rows (pass rows f) := by
  intro y hy x hx
  have hy' : y ∈ f := by
    rcases mem_pass.mp hy with q | ⟨z, hz, q⟩
    · exact q
    · exact h z hz y q
  exact mem_pass.mpr (.inl (h y hy' x hx))
theorem passes_ok {rows : List (List Nat)} (R : Rows rows) {f : List Nat} (h : Fd rows.length f) : ∀ k, Fd rows.length (passes rows k f) ∧ (Shut rows (passes rows k f) ∨ k + 1 ≤ (passes rows k f).length)
  | 0 => by
    refine ⟨h, ?_⟩
    show Shut rows f ∨ 0 + 1 ≤ f.length
    cases f with
    | nil => exact .inl fun y hy => by cases hy
    | cons x f => exact .inr (by rw [List.length_cons]; omega)
  | k + 1 => by
    obtain ⟨h1, h2⟩ := passes_ok R h k
    refine ⟨fold_fd R _ _ h1, ?_⟩
    show Shut rows (pass rows (passes rows k f)) ∨ k + 1 + 1 ≤ (pass rows (passes rows k f)).length
    by_cases hs : Shut rows (passes rows k f)
    · exact .inl (pass_shut hs)
    · have h2 : k + 1 ≤ (passes rows k f).length := h2.resolve_left hs
      obtain ⟨y, hy, x, hx, hn⟩ : ∃ y, y ∈ passes rows k f ∧ ∃ x, x ∈ above rows y ∧ x ∉ passes rows k f := by
        refine Classical.byContradiction fun q => hs fun y hy x hx => Classical.byContradiction fun z => q ⟨y, hy, x, hx, z⟩
      exact .inr (Nat.lt_of_le_of_lt h2 (fold_grow _ _ hy hx hn))
theorem clos_ok {rows : List (List Nat)} (R : Rows rows) (p : Nat) : Fd rows.length (clos rows p) ∧ Shut rows (clos rows p) := by
  obtain ⟨h1, h2⟩ := passes_ok R (f := above rows p) ⟨R.nd' p, R.lt' p⟩ rows.length
  refine ⟨h1, h2.resolve_right fun q => ?_⟩
  have := nodup_len h1.1 h1.2
  omega
theorem sub_passes {rows : List (List Nat)} {f : List Nat} {x : Nat} (h : x ∈ f) : ∀ k, x ∈ passes rows k f
  | 0 => h
  | k + 1 => mem_pass.mpr (.inl (sub_passes h k))
theorem passes_least {rows : List (List Nat)} {f : List Nat} {T : Nat → Prop} (h : ∀ x ∈ f, T x) (hT : ∀ y, T y → ∀ x ∈ above rows y, T x) : ∀ k, ∀ x ∈ passes rows k f, T x
  | 0 => h
  | k + 1 => fun x hx => by
    rcases mem_pass.mp hx with q | ⟨y, hy, q⟩
    · exact passes_least h hT k x q
    · exact hT y (passes_least h hT k y hy) x q
/-- the ascending list of what was found -/
def asc (n : Nat) (f : List Nat) : List Nat := (List.range n).filter fun x => decide (x ∈ f)
theorem mem_asc {n : Nat} {f : List Nat} {x : Nat} : x ∈ asc n f ↔ x < n ∧ x ∈ f := by
  unfold asc
  rw [List.mem_filter, List.mem_range]
  simp
theorem asc_ris (n : Nat) (f : List Nat) : Ris (asc n f) n := ⟨List.Pairwise.filter _ List.pairwise_lt_range, fun x hx => (mem_asc.mp hx).1⟩
theorem asc_sortS {n : Nat} {f : List Nat} (h : ∀ x ∈ f, x < n) : sortS (castL f) = castL (asc n f) := by
  refine rising_uniq (sortS_sorted _) (List.pairwise_map.mpr ((asc_ris n f).1.imp fun a => by omega)) fun k => ?_
  rw [mem_sortS]
  constructor
  · intro hk
    obtain ⟨m, hm, rfl⟩ := List.mem_map.mp hk
    exact List.mem_map.mpr ⟨m, mem_asc.mpr ⟨h m hm, hm⟩, rfl⟩
  · intro hk
    obtain ⟨m, hm, rfl⟩ := List.mem_map.mp hk
    exact List.mem_map.mpr ⟨m, (mem_asc.mp hm).2, rfl⟩
def closure (rows : List (List Nat)) (p : Nat) : List Nat := asc rows.length (clos rows p)
theorem closure_ord {rows : List (List Nat)} (R : Rows rows) (h1 : 1 ≤ rows.length) (h6 : rows.length ≤ 6) (rk : Nat → Nat) (hr : ∀ p x, x ∈ above rows p → rk p < rk x) : IsOrd ((List.range rows.length).map (closure rows)) := by
  have hlen : ((List.range rows.length).map (closure rows)).length = rows.length := by simp
  have hget : ∀ (i : Nat) (r : List Nat), ((List.range rows.length).map (closure rows))[i]? = some r → i < rows.length ∧ r = closure rows i := fun i r h => by
    have hi : i < rows.length := by rw [← hlen]; exact (List.getElem?_eq_some_iff.mp h).1
    rw [List.getElem?_map, List.getElem?_range hi] at h
    exact ⟨hi, (Option.some.inj h).symm⟩
  have up : ∀ p x, x ∈ clos rows p → rk p < rk x := fun p x hx =>
    passes_least (T := fun x => rk p < rk x) (fun y hy => hr p y hy) (fun y hy z hz => Nat.lt_trans hy (hr y z hz)) _ x hx
  refine ⟨by rw [hlen]; exact h1, by rw [hlen]; exact h6, fun r hr' => ?_, fun i r hi => ?_, fun i j r r' hi hj hr' k hk => ?_⟩
  · obtain ⟨i, _, rfl⟩ := List.mem_map.mp hr'
    rw [hlen]; exact asc_ris _ _
  · obtain ⟨_, rfl⟩ := hget i r hi
    intro hm
    exact Nat.lt_irrefl _ (up i i (mem_asc.mp hm).2)
  · obtain ⟨_, rfl⟩ := hget i r hi
    obtain ⟨_, rfl⟩ := hget j r' hr'
    have hj := (mem_asc.mp hj).2
    have hk' := mem_asc.mp hk
    refine mem_asc.mpr ⟨hk'.1, ?_⟩
    obtain ⟨_, sh⟩ := clos_ok R i
    exact passes_least (T := fun x => x ∈ clos rows i) (fun x hx => sh j hj x hx) (fun y hy x hx => sh y hy x hx) _ k hk'.2
/-- the relation of the drawn spots -/
def rel (D : Nat → Nat) (p q : Nat) : Bool := decide (D (1 + p) % 6 < D (1 + q) % 6) && decide (((D (10 + p) % 6 : Nat) : Int) < ((D (10 + q) % 6 : Nat) : Int) + (((D 20 % 3 : Nat) : Int) - 1))
def spotRows (D : Nat → Nat) (n : Nat) : List (List Nat) := (List.range n).map fun p => (List.range n).filter (rel D p)
def lawO (D : Nat → Nat) (most : Nat) : List (List Nat) := (List.range (1 + D 0 % most)).map (closure (spotRows D (1 + D 0 % most)))
theorem spot_len (D : Nat → Nat) (n : Nat) : (spotRows D n).length = n := by unfold spotRows; simp
theorem spot_rows (D : Nat → Nat) (n : Nat) : Rows (spotRows D n) := by
  refine ⟨fun r hr => ?_, fun r hr x hx => ?_⟩
  · obtain ⟨p, _, rfl⟩ := List.mem_map.mp hr
    exact (List.nodup_range).filter _
  · obtain ⟨p, _, rfl⟩ := List.mem_map.mp hr
    rw [spot_len]
    exact List.mem_range.mp (List.mem_filter.mp hx).1
theorem lawO_ord (D : Nat → Nat) {most : Nat} (h0 : 0 < most) (h6 : most ≤ 6) : IsOrd (lawO D most) := by
  have hm := Nat.mod_lt (D 0) h0
  have := closure_ord (spot_rows D (1 + D 0 % most)) (by rw [spot_len]; omega) (by rw [spot_len]; omega) (fun p => D (1 + p) % 6) fun p x hx => ?_
  · rw [spot_len] at this; exact this
  · have hx : x ∈ (spotRows D (1 + D 0 % most)).getD p [] := hx
    unfold spotRows at hx
    rw [List.getD_eq_getElem?_getD, List.getElem?_map] at hx
    by_cases hp : p < 1 + D 0 % most
    · rw [List.getElem?_range hp] at hx
      have := (List.mem_filter.mp hx).2
      unfold rel at this
      rw [Bool.and_eq_true] at this
      exact of_decide_eq_true this.1
    · rw [List.getElem?_eq_none (by simpa using hp)] at hx
      cases hx
theorem lawO_len (D : Nat → Nat) (most : Nat) : (lawO D most).length = 1 + D 0 % most := by unfold lawO; simp
end UP

namespace UP
open PySem PySem.Spec L2
/-! ### sums over sets of points -/
def held (v s : List Nat) : Nat := (s.map fun p => v.getD p 0).sum
def fsum (f : Nat → Nat) (n : Nat) : Nat := ((List.range n).map f).sum
theorem sum_map_add {α : Type} (f g : α → Nat) : ∀ l : List α, (l.map fun i => f i + g i).sum = (l.map f).sum + (l.map g).sum
  | [] => rfl
  | x :: l => by
    rw [List.map_cons, List.map_cons, List.map_cons, List.sum_cons, List.sum_cons, List.sum_cons, sum_map_add f g l]; omega
theorem fsum_add (f g : Nat → Nat) (n : Nat) : fsum (fun i => f i + g i) n = fsum f n + fsum g n := sum_map_add f g _
theorem sum_map_congr {α : Type} {f g : α → Nat} : ∀ {l : List α}, (∀ i ∈ l, f i = g i) → (l.map f).sum = (l.map g).sum
  | [], _ => rfl
  | x :: l, h => by
    rw [List.map_cons, List.map_cons, List.sum_cons, List.sum_cons, h x List.mem_cons_self, sum_map_congr fun i hi => h i (List.mem_cons_of_mem _ hi)]
theorem fsum_congr {f g : Nat → Nat} {n : Nat} (h : ∀ i, i < n → f i = g i) : fsum f n = fsum g n := sum_map_congr fun i hi => h i (List.mem_range.mp hi)
theorem sum_map_le {α : Type} {f g : α → Nat} : ∀ {l : List α}, (∀ i ∈ l, f i ≤ g i) → (l.map f).sum ≤ (l.map g).sum
  | [], _ => Nat.le_refl _
  | x :: l, h => by
    rw [List.map_cons, List.map_cons, List.sum_cons, List.sum_cons]
    have := h x List.mem_cons_self
    have := sum_map_le fun i hi => h i (List.mem_cons_of_mem _ hi)
    omega
theorem fsum_le {f g : Nat → Nat} {n : Nat} (h : ∀ i, i < n → f i ≤ g i) : fsum f n ≤ fsum g n := sum_map_le fun i hi => h i (List.mem_range.mp hi)
theorem sum_filter {α : Type} (f : α → Nat) (p : α → Bool) : ∀ l : List α, ((l.filter p).map f).sum = (l.map fun i => if p i = true then f i else 0).sum
  | [] => rfl
  | x :: l => by
    rw [List.filter_cons]
    split
    · rename_i h; rw [List.map_cons, List.map_cons, List.sum_cons, List.sum_cons, sum_filter f p l, if_pos h]
    · rename_i h; rw [List.map_cons, List.sum_cons, sum_filter f p l, if_neg h]; omega
theorem ris_uniq {l m : List Nat} (hl : l.Pairwise (· < ·)) (hm : m.Pairwise (· < ·)) (h : ∀ k, k ∈ l ↔ k ∈ m) : l = m := by
  refine castL_inj (rising_uniq (List.pairwise_map.mpr (hl.imp fun a => by omega)) (List.pairwise_map.mpr (hm.imp fun a => by omega)) fun k => ?_)
  constructor
  · intro hk
    obtain ⟨x, hx, rfl⟩ := List.mem_map.mp hk
    exact List.mem_map.mpr ⟨x, (h x).mp hx, rfl⟩
  · intro hk
    obtain ⟨x, hx, rfl⟩ := List.mem_map.mp hk
    exact List.mem_map.mpr ⟨x, (h x).mpr hx, rfl⟩
theorem asc_self {n : Nat} {s : List Nat} (h : Ris s n) : asc n s = s := ris_uniq (asc_ris n s).1 h.1 fun k => by
  rw [mem_asc]
  exact ⟨fun q => q.2, fun q => ⟨h.2 k q, q⟩⟩
theorem held_fsum {n : Nat} {v s : List Nat} (h : Ris s n) : held v s = fsum (fun i => if i ∈ s then v.getD i 0 else 0) n := by
  unfold held fsum
  have e := asc_self h
  rw [← e]
  unfold asc
  rw [sum_filter]
  refine sum_map_congr fun i hi => ?_
  have e' : (i ∈ (List.range n).filter fun x => decide (x ∈ s)) ↔ i ∈ s := by
    have : (i ∈ asc n s) ↔ i ∈ s := by rw [e]
    exact this
  by_cases q : i ∈ s
  · rw [if_pos (decide_eq_true q), if_pos (e'.mpr q)]
  · rw [if_neg (by rw [decide_eq_false q]; exact Bool.false_ne_true), if_neg (fun z => q (e'.mp z))]
theorem sum_fsum : ∀ v : List Nat, v.sum = fsum (fun i => v.getD i 0) v.length
  | [] => rfl
  | x :: v => by
    unfold fsum
    rw [List.length_cons, List.range_succ_eq_map, List.map_cons, List.map_map, List.sum_cons, List.sum_cons, sum_fsum v]
    rfl
/-! ### closed sets meet and join -/
def meet (s t : List Nat) : List Nat := s.filter fun p => decide (p ∈ t)
def join (n : Nat) (s t : List Nat) : List Nat := asc n (s ++ t)
theorem mem_meet {s t : List Nat} {x : Nat} : x ∈ meet s t ↔ x ∈ s ∧ x ∈ t := by
  unfold meet
  rw [List.mem_filter]
  simp
theorem mem_join {n : Nat} {s t : List Nat} (hs : Ris s n) (ht : Ris t n) {x : Nat} : x ∈ join n s t ↔ x ∈ s ∨ x ∈ t := by
  unfold join
  rw [mem_asc, List.mem_append]
  exact ⟨fun h => h.2, fun h => ⟨h.elim (hs.2 x) (ht.2 x), h⟩⟩
theorem meet_ris {n : Nat} {s t : List Nat} (hs : Ris s n) : Ris (meet s t) n := ⟨hs.1.filter _, fun x hx => hs.2 x (mem_meet.mp hx).1⟩
section
variable {o : List (List Nat)} {s t : List Nat}
theorem meet_closed (hs : s ∈ closedSets o) (ht : t ∈ closedSets o) : meet s t ∈ closedSets o := by
  obtain ⟨a1, a2⟩ := mem_closed.mp hs
  obtain ⟨b1, b2⟩ := mem_closed.mp ht
  refine mem_closed.mpr ⟨meet_ris a1, clo_iff.mpr fun p hp m hm => ?_⟩
  obtain ⟨h1, h2⟩ := mem_meet.mp hp
  exact mem_meet.mpr ⟨clo_iff.mp a2 p h1 m hm, clo_iff.mp b2 p h2 m hm⟩
theorem join_closed (hs : s ∈ closedSets o) (ht : t ∈ closedSets o) : join o.length s t ∈ closedSets o := by
  obtain ⟨a1, a2⟩ := mem_closed.mp hs
  obtain ⟨b1, b2⟩ := mem_closed.mp ht
  refine mem_closed.mpr ⟨asc_ris _ _, clo_iff.mpr fun p hp m hm => ?_⟩
  rcases (mem_join a1 b1).mp hp with h | h
  · exact (mem_join a1 b1).mpr (.inl (clo_iff.mp a2 p h m hm))
  · exact (mem_join a1 b1).mpr (.inr (clo_iff.mp b2 p h m hm))
theorem meet_join_held {v : List Nat} (hs : Ris s o.length) (ht : Ris t o.length) : held v s + held v t = held v (meet s t) + held v (join o.length s t) := by
  unfold join
  rw [held_fsum hs, held_fsum ht, held_fsum (meet_ris hs), held_fsum (asc_ris o.length (s ++ t)), ← fsum_add, ← fsum_add]
  refine fsum_congr fun i _ => ?_
  have e1 : (i ∈ meet s t) ↔ i ∈ s ∧ i ∈ t := mem_meet
  have e2 : (i ∈ asc o.length (s ++ t)) ↔ i ∈ s ∨ i ∈ t := mem_join hs ht
  by_cases h1 : i ∈ s <;> by_cases h2 : i ∈ t <;> simp only [e1, e2, h1, h2] <;> simp
theorem nil_closed (o : List (List Nat)) : [] ∈ closedSets o := mem_closed.mpr ⟨⟨List.Pairwise.nil, fun _ h => by cases h⟩, rfl⟩
theorem closed_head (o : List (List Nat)) : ∃ r, closedSets o = [] :: r := by
  have h := nil_closed o
  have hs : SrtN (closedSets o) := sortN_sorted _
  cases e : closedSets o with
  | nil => rw [e] at h; cases h
  | cons x r =>
    rw [e] at h hs
    have : x = [] := by
      rcases List.mem_cons.mp h with q | q
      · exact q.symm
      · have := (List.pairwise_cons.mp hs).1 [] q
        cases x with
        | nil => rfl
        | cons y l => cases this
    exact ⟨r, by rw [this]⟩
theorem all_closed (h : IsOrd o) : List.range o.length ∈ closedSets o := by
  refine mem_closed.mpr ⟨⟨List.pairwise_lt_range, fun x hx => List.mem_range.mp hx⟩, clo_iff.mpr fun p hp m hm => ?_⟩
  exact List.mem_range.mpr ((h.ris (List.mem_range.mp hp)).2 m hm)
/-- the greater points of a point, with it -/
def upset (o : List (List Nat)) (p : Nat) : List Nat := asc o.length (above o p ++ [p])
theorem mem_upset (h : IsOrd o) {p : Nat} (hp : p < o.length) {x : Nat} : x ∈ upset o p ↔ x ∈ above o p ∨ x = p := by
  unfold upset
  rw [mem_asc, List.mem_append, List.mem_singleton]
  exact ⟨fun q => q.2, fun q => ⟨q.elim ((h.ris hp).2 x) fun z => z ▸ hp, q⟩⟩
theorem upset_closed (h : IsOrd o) {p : Nat} (hp : p < o.length) : upset o p ∈ closedSets o := by
  refine mem_closed.mpr ⟨asc_ris _ _, clo_iff.mpr fun q hq m hm => ?_⟩
  rcases (mem_upset h hp).mp hq with z | z
  · have hq' : q < o.length := (h.ris hp).2 q z
    exact (mem_upset h hp).mpr (.inl (h.tr p q _ _ (h.row hp) z (h.row hq') m hm))
  · subst z; exact (mem_upset h hp).mpr (.inl hm)
theorem upset_least (h : IsOrd o) {p : Nat} (hs : s ∈ closedSets o) (hp : p ∈ s) : (upset o p).length ≤ s.length := by
  obtain ⟨a1, a2⟩ := mem_closed.mp hs
  have hpl := a1.2 p hp
  refine sub_len ((asc_ris _ _).1.imp fun a => Nat.ne_of_lt a) fun x hx => ?_
  rcases (mem_upset h hpl).mp hx with z | z
  · exact clo_iff.mp a2 p hp x z
  · rw [z]; exact hp
/-- sorted(order[p] + (p,)) -/
theorem upset_sort (h : IsOrd o) {p : Nat} (hp : p < o.length) : sortI (castL (above o p ++ [p])) = castL (upset o p) := by
  refine sortI_uniq (sortI_sorted _) (List.pairwise_map.mpr ((asc_ris o.length (above o p ++ [p])).1.imp fun a => by omega)) ?_
  refine (sortI_perm _).trans ?_
  show (List.map _ _).Perm (List.map _ _)
  refine List.Perm.map _ ?_
  have hnd : (above o p ++ [p]).Nodup := by
    refine List.nodup_append.mpr ⟨(h.ris hp).1.imp fun a => Nat.ne_of_lt a, List.nodup_cons.mpr ⟨by simp, List.nodup_nil⟩, fun a ha b hb e => ?_⟩
    rw [List.mem_singleton.mp hb] at e
    exact h.irr p _ (h.row hp) (e ▸ ha)
  have hnd2 : (upset o p).Nodup := (asc_ris o.length _).1.imp fun a => Nat.ne_of_lt a
  exact (List.perm_ext_iff_of_nodup hnd hnd2).mpr fun x => by rw [mem_upset h hp, List.mem_append, List.mem_singleton]
end
end UP

namespace UP
open PySem PySem.Spec L2
theorem un65 {A : Around} {k : Nat} (hr : Room k A) : A.units + 65 < cLine := by have := hr.un; omega
theorem rg {n i y : Nat} (h : (List.range n)[i]? = some y) : y = i ∧ i < n := by
  have hi : i < n := by simpa using (List.getElem?_eq_some_iff.mp h).1
  rw [List.getElem?_range hi] at h
  exact ⟨(Option.some.inj h).symm, hi⟩
theorem take_get {α : Type} {xs : List α} {i : Nat} {y : α} (h : xs[i]? = some y) : xs.take (i + 1) = xs.take i ++ [y] := by
  rw [List.take_add_one, h]; rfl
theorem filter_take {α : Type} {xs : List α} {pr : α → Bool} {i : Nat} {y : α} (h : xs[i]? = some y) : (xs.take (i + 1)).filter pr = (xs.take i).filter pr ++ (if pr y = true then [y] else []) := by
  rw [take_get h, List.filter_append, List.filter_cons]; rfl
/-- the next greater points -/
def nextAbove (o : List (List Nat)) (p : Nat) : List Nat := (above o p).filter fun m => ((above o p).filter fun k => decide (m ∈ above o k)).isEmpty
theorem map_isEmpty {α β : Type} (f : α → β) (l : List α) : (l.map f).isEmpty = l.isEmpty := by cases l <;> rfl
theorem eqv_nil {α : Type} [DecidableEq α] {f : α → PyData} (l : List α) : PyData.eqv (.list (l.map f)) (.list []) = l.isEmpty := by
  cases l with
  | nil => rfl
  | cons x l => rfl
theorem filt_len {α : Type} (l : List α) (p : α → Bool) : (l.filter p).length ≤ l.length := List.length_filter_le _ _
end UP

namespace UP
open PySem PySem.Spec L2
/-! ### the moving of one unit -/
def NoPaper (o : List (List Nat)) (a b : List Nat) : Prop := ∀ s ∈ closedSets o, held a s ≤ held b s
def dec (v : List Nat) (p : Nat) : List Nat := v.set p (v.getD p 0 - 1)
theorem fsum_succ (f : Nat → Nat) (n : Nat) : fsum f (n + 1) = fsum f n + f n := by
  unfold fsum
  rw [List.range_succ, List.map_append, List.sum_append, List.map_singleton, List.sum_singleton]
theorem fsum_single {n p : Nat} (x : Nat) (h : p < n) : fsum (fun i => if i = p then x else 0) n = x := by
  induction n with
  | zero => omega
  | succ n ih =>
    rw [fsum_succ]
    by_cases e : p = n
    · subst e
      rw [if_pos rfl]
      have : fsum (fun i => if i = p then x else 0) p = fsum (fun _ => 0) p := fsum_congr fun i hi => if_neg (by omega)
      rw [this]
      have : fsum (fun _ => 0) p = 0 := by
        unfold fsum
        induction (List.range p) with
        | nil => rfl
        | cons y l ih => rw [List.map_cons, List.sum_cons, ih]
      omega
    · rw [if_neg (by omega), ih (by omega)]; rfl
theorem fsum_zero (n : Nat) : fsum (fun _ => 0) n = 0 := by
  induction n with
  | zero => rfl
  | succ n ih => rw [fsum_succ, ih]
theorem getD_set (v : List Nat) (p x i : Nat) (hp : p < v.length) : (v.set p x).getD i 0 = if i = p then x else v.getD i 0 := by
  rw [List.getD_eq_getElem?_getD, List.getD_eq_getElem?_getD]
  by_cases e : i = p
  · subst e
    rw [if_pos rfl, List.getElem?_set_self hp]; rfl
  · rw [if_neg e, List.getElem?_set_ne (Ne.symm e)]
theorem held_dec {n : Nat} {v s : List Nat} {p : Nat} (hs : Ris s n) (hv : v.length = n) (hp : p < n) (h0 : 0 < v.getD p 0) : held (dec v p) s + (if p ∈ s then 1 else 0) = held v s := by
  rw [held_fsum hs, held_fsum hs]
  have e : (if p ∈ s then 1 else 0) = fsum (fun i => if i = p then (if p ∈ s then 1 else 0) else 0) n := (fsum_single _ hp).symm
  rw [e, ← fsum_add]
  refine fsum_congr fun i hi => ?_
  unfold dec
  rw [getD_set _ _ _ _ (by omega)]
  by_cases e : i = p
  · subst e
    rw [if_pos rfl, if_pos rfl]
    by_cases q : i ∈ s
    · rw [if_pos q, if_pos q, if_pos q]; omega
    · rw [if_neg q, if_neg q, if_neg q]
  · rw [if_neg e, if_neg e]; rfl
section
variable {o : List (List Nat)} {a b : List Nat} {p : Nat}
theorem join_tight {s t : List Nat} (np : NoPaper o a b) (hs : s ∈ closedSets o) (ht : t ∈ closedSets o) (es : held a s = held b s) (et : held a t = held b t) : held a (join o.length s t) = held b (join o.length s t) := by
  have r1 := (mem_closed.mp hs).1
  have r2 := (mem_closed.mp ht).1
  have e1 := meet_join_held (o := o) (v := a) r1 r2
  have e2 := meet_join_held (o := o) (v := b) r1 r2
  have i1 := np _ (meet_closed hs ht)
  have i2 := np _ (join_closed hs ht)
  omega
/-- all tight closed sets that avoid p, joined -/
theorem tight_top (np : NoPaper o a b) : ∀ l : List (List Nat), (∀ s ∈ l, s ∈ closedSets o ∧ p ∉ s ∧ held a s = held b s) → ∃ T, T ∈ closedSets o ∧ p ∉ T ∧ held a T = held b T ∧ ∀ s ∈ l, ∀ x ∈ s, x ∈ T
  | [], _ => ⟨[], nil_closed o, by simp, rfl, fun _ h => by cases h⟩
  | s :: l, h => by
    obtain ⟨T, h1, h2, h3, h4⟩ := tight_top np l fun t ht => h t (List.mem_cons_of_mem _ ht)
    obtain ⟨g1, g2, g3⟩ := h s List.mem_cons_self
    have r1 := (mem_closed.mp g1).1
    have r2 := (mem_closed.mp h1).1
    refine ⟨join o.length s T, join_closed g1 h1, fun q => ?_, join_tight np g1 h1 g3 h3, fun t ht x hx => ?_⟩
    · exact ((mem_join r1 r2).mp q).elim g2 h2
    · rcases List.mem_cons.mp ht with e | e
      · exact (mem_join r1 r2).mpr (.inl (e ▸ hx))
      · exact (mem_join r1 r2).mpr (.inr (h4 t e x hx))
theorem one_step (h : IsOrd o) (ha : a.length = o.length) (hb : b.length = o.length) (np : NoPaper o a b) (hp : p < o.length) (h0 : 0 < a.getD p 0) :
    ∃ g, g ∈ upset o p ∧ 0 < b.getD g 0 ∧ NoPaper o (dec a p) (dec b g) := by
  obtain ⟨T, h1, h2, h3, h4⟩ := tight_top (p := p) np ((closedSets o).filter fun s => decide (p ∉ s ∧ held a s = held b s)) fun s hs => by
    obtain ⟨q1, q2⟩ := List.mem_filter.mp hs
    exact ⟨q1, of_decide_eq_true q2⟩
  have rT := (mem_closed.mp h1).1
  have cU := upset_closed h hp
  have rU := (mem_closed.mp cU).1
  have mU : p ∈ upset o p := (mem_upset h hp).mpr (.inr rfl)
  have key : ∃ g, g ∈ upset o p ∧ 0 < b.getD g 0 ∧ g ∉ T := by
    refine Classical.byContradiction fun no => ?_
    have all : ∀ g ∈ upset o p, 0 < b.getD g 0 → g ∈ T := fun g hg hb => Classical.byContradiction fun q => no ⟨g, hg, hb, q⟩
    have cS := join_closed h1 cU
    have rS := (mem_closed.mp cS).1
    have i1 := np _ cS
    have e1 : held b (join o.length T (upset o p)) = held b T := by
      rw [held_fsum rS, held_fsum rT]
      refine fsum_congr fun i hi => ?_
      by_cases q : i ∈ T
      · rw [if_pos q, if_pos ((mem_join rT rU).mpr (.inl q))]
      · rw [if_neg q]
        by_cases q2 : i ∈ join o.length T (upset o p)
        · rw [if_pos q2]
          rcases (mem_join rT rU).mp q2 with z | z
          · exact absurd z q
          · refine Classical.byContradiction fun ne => q (all i z (by omega))
        · rw [if_neg q2]
    have e2 : held a T + a.getD p 0 ≤ held a (join o.length T (upset o p)) := by
      rw [held_fsum rS, held_fsum rT]
      have e : a.getD p 0 = fsum (fun i => if i = p then a.getD p 0 else 0) o.length := (fsum_single _ hp).symm
      rw [e, ← fsum_add]
      refine fsum_le fun i hi => ?_
      by_cases ei : i = p
      · subst ei
        rw [if_neg h2, if_pos rfl, if_pos ((mem_join rT rU).mpr (.inr mU))]; omega
      · rw [if_neg ei]
        by_cases q : i ∈ T
        · rw [if_pos q, if_pos ((mem_join rT rU).mpr (.inl q))]; omega
        · rw [if_neg q]; omega
    omega
  obtain ⟨g, g1, g2, g3⟩ := key
  have hg : g < o.length := rU.2 g g1
  refine ⟨g, g1, g2, fun s hs => ?_⟩
  have rs := (mem_closed.mp hs).1
  have i1 := np s hs
  have d1 := held_dec rs ha hp h0
  have d2 := held_dec rs hb hg g2
  by_cases q : p ∈ s
  · have q2 : g ∈ s := by
      rcases (mem_upset h hp).mp g1 with z | z
      · exact clo_iff.mp (mem_closed.mp hs).2 p q g z
      · rw [z]; exact q
    rw [if_pos q] at d1
    rw [if_pos q2] at d2
    omega
  · rw [if_neg q] at d1
    by_cases q2 : g ∈ s
    · rw [if_pos q2] at d2
      have : held a s ≠ held b s := fun e => g3 (h4 s (List.mem_filter.mpr ⟨hs, decide_eq_true ⟨q, e⟩⟩) g q2)
      omega
    · rw [if_neg q2] at d2
      omega
/-- c is taken from b -/
def minus (b c : List Nat) : List Nat := (List.range b.length).map fun i => b.getD i 0 - c.getD i 0
def cut (a : List Nat) (p k : Nat) : List Nat := a.set p (a.getD p 0 - k)
theorem getD_map_range {n i : Nat} {f : Nat → Nat} (h : i < n) : ((List.range n).map f).getD i 0 = f i := by
  rw [List.getD_eq_getElem?_getD, List.getElem?_map, List.getElem?_range h]; rfl
theorem sum_set_add : ∀ (v : List Nat) (p x : Nat), p < v.length → (v.set p (v.getD p 0 + x)).sum = v.sum + x
  | y :: v, 0, x, _ => by
    show ((y + x) :: v).sum = (y :: v).sum + x
    rw [List.sum_cons, List.sum_cons]; omega
  | y :: v, p + 1, x, h => by
    show (y :: v.set p (v.getD p 0 + x)).sum = (y :: v).sum + x
    rw [List.sum_cons, List.sum_cons, sum_set_add v p x (by simpa using h)]; omega
theorem moves (h : IsOrd o) (ha : a.length = o.length) (hb : b.length = o.length) (np : NoPaper o a b) (hp : p < o.length) : ∀ k, k ≤ a.getD p 0 →
    ∃ c : List Nat, c.length = o.length ∧ c.sum = k ∧ (∀ g, c.getD g 0 ≤ b.getD g 0) ∧ (∀ g, 0 < c.getD g 0 → g ∈ upset o p) ∧ NoPaper o (cut a p k) (minus b c)
  | 0, _ => by
    refine ⟨List.replicate o.length 0, by simp, by simp, fun g => ?_, fun g hg => ?_, fun s hs => ?_⟩
    · rw [List.getD_eq_getElem?_getD, List.getElem?_replicate]; split <;> simp
    · rw [List.getD_eq_getElem?_getD, List.getElem?_replicate] at hg
      split at hg <;> simp at hg
    · have rs := (mem_closed.mp hs).1
      have e1 : held (cut a p 0) s = held a s := by
        rw [held_fsum rs, held_fsum rs]
        refine fsum_congr fun i hi => ?_
        unfold cut
        rw [getD_set _ _ _ _ (by omega)]
        by_cases q : i = p
        · subst q; rw [if_pos rfl]; rfl
        · rw [if_neg q]
      have e2 : held (minus b (List.replicate o.length 0)) s = held b s := by
        rw [held_fsum rs, held_fsum rs]
        refine fsum_congr fun i hi => ?_
        unfold minus
        rw [getD_map_range (by omega)]
        have : (List.replicate o.length 0).getD i 0 = 0 := by rw [List.getD_eq_getElem?_getD, List.getElem?_replicate]; split <;> rfl
        rw [this]; rfl
      rw [e1, e2]
      exact np s hs
  | k + 1, hk => by
    obtain ⟨c, c1, c2, c3, c4, c5⟩ := moves h ha hb np hp k (by omega)
    have l1 : (cut a p k).length = o.length := by unfold cut; rw [List.length_set]; exact ha
    have l2 : (minus b c).length = o.length := by unfold minus; rw [List.length_map, List.length_range]; exact hb
    have e0 : (cut a p k).getD p 0 = a.getD p 0 - k := by unfold cut; rw [getD_set _ _ _ _ (by omega), if_pos rfl]
    obtain ⟨g, g1, g2, g3⟩ := one_step h l1 l2 c5 hp (by omega)
    have hg : g < o.length := (mem_closed.mp (upset_closed h hp)).1.2 g g1
    have eg : (minus b c).getD g 0 = b.getD g 0 - c.getD g 0 := by unfold minus; rw [getD_map_range (by omega)]
    have gs : ∀ i, (c.set g (c.getD g 0 + 1)).getD i 0 = if i = g then c.getD g 0 + 1 else c.getD i 0 := fun i => getD_set _ _ _ _ (by omega)
    refine ⟨c.set g (c.getD g 0 + 1), by rw [List.length_set]; exact c1, by rw [sum_set_add _ _ _ (by omega), c2], fun i => ?_, fun i hi => ?_, fun s hs => ?_⟩
    · rw [gs]
      by_cases q : i = g
      · rw [if_pos q, q]; omega
      · rw [if_neg q]; exact c3 i
    · rw [gs] at hi
      by_cases q : i = g
      · rw [q]; exact g1
      · rw [if_neg q] at hi; exact c4 i hi
    · have rs := (mem_closed.mp hs).1
      have e1 : held (cut a p (k + 1)) s = held (dec (cut a p k) p) s := by
        rw [held_fsum rs, held_fsum rs]
        refine fsum_congr fun i hi => ?_
        unfold dec
        rw [getD_set _ _ _ _ (by omega), e0]
        unfold cut
        rw [getD_set _ _ _ _ (by omega), getD_set _ _ _ _ (by omega)]
        by_cases q : i = p
        · subst q; rw [if_pos rfl, if_pos rfl]
          show (if i ∈ s then a.getD i 0 - (k + 1) else 0) = if i ∈ s then a.getD i 0 - k - 1 else 0
          congr 1
        · rw [if_neg q, if_neg q, if_neg q]
      have e2 : held (minus b (c.set g (c.getD g 0 + 1))) s = held (dec (minus b c) g) s := by
        rw [held_fsum rs, held_fsum rs]
        refine fsum_congr fun i hi => ?_
        unfold dec
        rw [getD_set _ _ _ _ (by omega), eg]
        unfold minus
        rw [getD_map_range (by omega), getD_map_range (by omega), gs]
        by_cases q : i = g
        · subst q; rw [if_pos rfl, if_pos rfl]
          congr 1
        · rw [if_neg q, if_neg q]
      rw [e1, e2]
      exact g3 s hs
end
end UP

namespace UP
open PySem PySem.Spec L2
/-! ### amounts -/
def amountsOf : Nat → List Nat → List (List Nat)
  | t, [] => if t = 0 then [[]] else []
  | t, m :: ms => (List.range (min t m + 1)).flatMap fun a => (amountsOf (t - a) ms).map (a :: ·)
theorem mem_amounts : ∀ {ms : List Nat} {t : Nat} {x : List Nat}, x ∈ amountsOf t ms ↔ x.length = ms.length ∧ x.sum = t ∧ ∀ i, x.getD i 0 ≤ ms.getD i 0
  | [], t, x => by
    unfold amountsOf
    by_cases e : t = 0
    · rw [if_pos e, List.mem_singleton]
      constructor
      · intro h; subst h; exact ⟨rfl, e.symm, fun i => Nat.le_refl _⟩
      · rintro ⟨h, _, _⟩; exact List.eq_nil_of_length_eq_zero h
    · rw [if_neg e]
      constructor
      · intro h; cases h
      · rintro ⟨h1, h2, _⟩
        have := List.eq_nil_of_length_eq_zero h1
        subst this
        exact absurd h2.symm e
  | m :: ms, t, x => by
    unfold amountsOf
    rw [List.mem_flatMap]
    constructor
    · rintro ⟨a, ha, hx⟩
      obtain ⟨y, hy, rfl⟩ := List.mem_map.mp hx
      obtain ⟨h1, h2, h3⟩ := mem_amounts.mp hy
      have ha' := List.mem_range.mp ha
      refine ⟨by rw [List.length_cons, List.length_cons, h1], by rw [List.sum_cons, h2]; omega, fun i => ?_⟩
      cases i with
      | zero => show a ≤ m; omega
      | succ i => exact h3 i
    · rintro ⟨h1, h2, h3⟩
      cases x with
      | nil => cases h1
      | cons a y =>
        rw [List.sum_cons] at h2
        have h0 : a ≤ m := h3 0
        refine ⟨a, List.mem_range.mpr (by omega), List.mem_map.mpr ⟨y, mem_amounts.mpr ⟨by simpa using h1, by omega, fun i => h3 (i + 1)⟩, rfl⟩⟩
theorem flatMap_len {α β : Type} (f : α → List β) (k : Nat) : ∀ l : List α, (∀ x ∈ l, (f x).length ≤ k) → (l.flatMap f).length ≤ l.length * k
  | [], _ => by simp
  | x :: l, h => by
    rw [List.flatMap_cons, List.length_append, List.length_cons, Nat.add_mul, Nat.one_mul]
    have := h x List.mem_cons_self
    have := flatMap_len f k l fun y hy => h y (List.mem_cons_of_mem _ hy)
    omega
theorem amounts_len : ∀ (ms : List Nat) (t : Nat), (amountsOf t ms).length ≤ (t + 1) ^ ms.length
  | [], t => by
    unfold amountsOf
    split <;> simp
  | m :: ms, t => by
    unfold amountsOf
    rw [List.length_cons, Nat.pow_succ, Nat.mul_comm]
    refine Nat.le_trans (flatMap_len _ ((t + 1) ^ ms.length) _ fun a ha => ?_) (Nat.mul_le_mul_right _ (by rw [List.length_range]; omega))
    rw [List.length_map]
    exact Nat.le_trans (amounts_len ms (t - a)) (Nat.pow_le_pow_left (by omega) _)
/-! ### taking amounts from what is wanted -/
def restOf (w : List Nat) : List Nat → List Nat → List Nat
  | g :: gs, m :: ms => restOf (w.set g (w.getD g 0 - m)) gs ms
  | _, _ => w
def am (gs ms : List Nat) (i : Nat) : Nat := ((gs.zip ms).map fun q => if q.1 = i then q.2 else 0).sum
theorem am_cons (g m i : Nat) (gs ms : List Nat) : am (g :: gs) (m :: ms) i = (if g = i then m else 0) + am gs ms i := by
  unfold am
  rw [List.zip_cons_cons, List.map_cons, List.sum_cons]
theorem rest_len : ∀ (gs ms w : List Nat), (restOf w gs ms).length = w.length
  | [], _, _ => by unfold restOf; rfl
  | _ :: _, [], _ => by unfold restOf; rfl
  | g :: gs, m :: ms, w => by
    unfold restOf
    rw [rest_len gs ms, List.length_set]
theorem getD_rest : ∀ (gs ms w : List Nat) (i : Nat), (∀ g ∈ gs, g < w.length) → (restOf w gs ms).getD i 0 = w.getD i 0 - am gs ms i
  | [], ms, w, i, _ => by unfold restOf am; simp
  | _ :: _, [], w, i, _ => by unfold restOf am; simp
  | g :: gs, m :: ms, w, i, h => by
    unfold restOf
    rw [getD_rest gs ms _ i (fun x hx => by rw [List.length_set]; exact h x (List.mem_cons_of_mem _ hx)), am_cons, getD_set _ _ _ _ (h g List.mem_cons_self)]
    by_cases e : i = g
    · subst e; rw [if_pos rfl, if_pos rfl]; omega
    · rw [if_neg e, if_neg (Ne.symm e)]; omega
theorem ext_getD {a b : List Nat} (hl : a.length = b.length) (h : ∀ i, i < a.length → a.getD i 0 = b.getD i 0) : a = b := by
  refine List.ext_getElem hl fun i h1 h2 => ?_
  have := h i h1
  rw [List.getD_eq_getElem?_getD, List.getD_eq_getElem?_getD, List.getElem?_eq_getElem h1, List.getElem?_eq_getElem h2] at this
  exact this
theorem am_map : ∀ (gs : List Nat) (c : Nat → Nat) (i : Nat), gs.Nodup → am gs (gs.map c) i = if i ∈ gs then c i else 0
  | [], c, i, _ => rfl
  | g :: gs, c, i, h => by
    rw [List.map_cons, am_cons, am_map gs c i (List.nodup_cons.mp h).2]
    have hn := (List.nodup_cons.mp h).1
    by_cases e : g = i
    · subst e
      rw [if_pos rfl, if_neg hn, if_pos List.mem_cons_self]; rfl
    · rw [if_neg e]
      by_cases q : i ∈ gs
      · rw [if_pos q, if_pos (List.mem_cons_of_mem _ q)]; omega
      · rw [if_neg q, if_neg (fun z => (List.mem_cons.mp z).elim (fun z => e z.symm) q)]
theorem am_notin : ∀ (gs m : List Nat) (i : Nat), i ∉ gs → am gs m i = 0
  | [], _, _, _ => by unfold am; simp
  | _ :: _, [], _, _ => by unfold am; simp
  | g :: gs, x :: m, i, h => by
    have n1 : ¬ g = i := fun z => h (by rw [z]; exact List.mem_cons_self)
    rw [am_cons, if_neg n1, am_notin gs m i fun z => h (List.mem_cons_of_mem _ z)]
theorem am_le {f : Nat → Nat} : ∀ {gs m : List Nat}, gs.Nodup → (∀ j, m.getD j 0 ≤ (gs.map f).getD j 0) → ∀ i, am gs m i ≤ f i
  | [], _, _, _, _ => by unfold am; simp
  | _ :: _, [], _, _, _ => by unfold am; simp
  | g :: gs, x :: m, nd, h, i => by
    rw [am_cons]
    obtain ⟨n1, n2⟩ := List.nodup_cons.mp nd
    by_cases e : g = i
    · subst e
      rw [if_pos rfl, am_notin gs m g n1]
      exact h 0
    · rw [if_neg e, Nat.zero_add]
      exact am_le n2 (fun j => h (j + 1)) i
/-! ### what is left of one -/
def keep (one : List Nat) (p : Nat) : List Nat := (List.range one.length).map fun i => if p ≤ i then one.getD i 0 else 0
theorem keep_len (one : List Nat) (p : Nat) : (keep one p).length = one.length := by unfold keep; simp
theorem keep_get {one : List Nat} {p i : Nat} (h : i < one.length) : (keep one p).getD i 0 = if p ≤ i then one.getD i 0 else 0 := getD_map_range h
theorem keep_zero (one : List Nat) : keep one 0 = one := ext_getD (keep_len _ _) fun i h => by
  rw [keep_len] at h
  rw [keep_get h, if_pos (Nat.zero_le _)]
theorem keep_cut {one : List Nat} {p : Nat} (h : p < one.length) : cut (keep one p) p (one.getD p 0) = keep one (p + 1) := by
  refine ext_getD (by unfold cut; rw [List.length_set, keep_len, keep_len]) fun i hi => ?_
  have hi' : i < one.length := by unfold cut at hi; rw [List.length_set, keep_len] at hi; exact hi
  unfold cut
  rw [getD_set _ _ _ _ (by rw [keep_len]; exact h), keep_get hi', keep_get h, keep_get hi', if_pos (Nat.le_refl _)]
  by_cases e : i = p
  · subst e; rw [if_pos rfl, if_neg (by omega)]; omega
  · rw [if_neg e]
    by_cases q : p ≤ i
    · rw [if_pos q, if_pos (by omega)]
    · rw [if_neg q, if_neg (by omega)]
theorem keep_sum {one : List Nat} {p : Nat} (h : p < one.length) : (keep one p).sum = one.getD p 0 + (keep one (p + 1)).sum := by
  rw [sum_fsum, sum_fsum, keep_len, keep_len]
  have e : one.getD p 0 = fsum (fun i => if i = p then one.getD p 0 else 0) one.length := (fsum_single _ h).symm
  rw [e, ← fsum_add]
  refine fsum_congr fun i hi => ?_
  rw [keep_get hi, keep_get hi]
  by_cases q : i = p
  · subst q; rw [if_pos (Nat.le_refl _), if_pos rfl, if_neg (by omega)]; rfl
  · rw [if_neg q]
    by_cases q2 : p ≤ i
    · rw [if_pos q2, if_pos (by omega)]; omega
    · rw [if_neg q2, if_neg (by omega)]
theorem keep_end (one : List Nat) : (keep one one.length).sum = 0 := by
  rw [sum_fsum, keep_len]
  refine Eq.trans (fsum_congr (g := fun _ => 0) fun i hi => ?_) (fsum_zero _)
  rw [keep_get hi, if_neg (by omega)]
/-! ### the first plan -/
abbrev Row := Nat × Nat × Nat
def paperOf (o : List (List Nat)) (a b : List Nat) : Option (List Nat) := (closedSets o).find? fun s => decide (held b s < held a s)
theorem paper_none {o : List (List Nat)} {a b : List Nat} : paperOf o a b = none ↔ NoPaper o a b := by
  unfold paperOf NoPaper
  rw [List.find?_eq_none]
  constructor
  · intro h s hs
    have := h s hs
    simp at this
    exact this
  · intro h s hs
    have := h s hs
    simp
    exact this
def pick (o : List (List Nat)) (one : List Nat) (p : Nat) (w : List Nat) : Option (List Nat) :=
  (amountsOf (one.getD p 0) ((upset o p).map fun g => w.getD g 0)).find? fun m => (paperOf o (keep one (p + 1)) (restOf w (upset o p) m)).isNone
def rowsAt (o : List (List Nat)) (p : Nat) (m : List Nat) : List Row := (((upset o p).zip m).filter fun q => decide (0 < q.2)).map fun q => (p, q.1, q.2)
def planTo (o : List (List Nat)) (one other : List Nat) : Nat → List Row × List Nat
  | 0 => ([], other)
  | p + 1 => match pick o one p (planTo o one other p).2 with
    | some m => ((planTo o one other p).1 ++ rowsAt o p m, restOf (planTo o one other p).2 (upset o p) m)
    | none => planTo o one other p
def firstPlan (o : List (List Nat)) (one other : List Nat) : List Row := (planTo o one other o.length).1
def rsum (f : Row → Bool) (rows : List Row) : Nat := ((rows.filter f).map fun r => r.2.2).sum
structure IsPl (o : List (List Nat)) (one other : List Nat) (rows : List Row) : Prop where
  ok : ∀ r ∈ rows, r.1 < o.length ∧ r.2.1 < o.length ∧ 1 ≤ r.2.2 ∧ r.2.2 ≤ 9 ∧ (r.1 = r.2.1 ∨ r.2.1 ∈ above o r.1)
  srt : rows.Pairwise fun r q => r.1 < q.1 ∨ (r.1 = q.1 ∧ r.2.1 < q.2.1)
  frm : ∀ p, p < o.length → rsum (fun r => decide (r.1 = p)) rows = one.getD p 0
  to : ∀ p, p < o.length → rsum (fun r => decide (r.2.1 = p)) rows = other.getD p 0
theorem rsum_append (f : Row → Bool) (a b : List Row) : rsum f (a ++ b) = rsum f a + rsum f b := by
  unfold rsum
  rw [List.filter_append, List.map_append, List.sum_append]
theorem rsum_rows (f : Row → Bool) (p : Nat) : ∀ l : List (Nat × Nat), rsum f ((l.filter fun q => decide (0 < q.2)).map fun q => (p, q.1, q.2)) = (l.map fun q => if f (p, q.1, q.2) = true then q.2 else 0).sum
  | [] => rfl
  | q :: l => by
    have ih := rsum_rows f p l
    rw [List.filter_cons, List.map_cons, List.sum_cons]
    by_cases h : 0 < q.2
    · rw [if_pos (decide_eq_true h), List.map_cons]
      unfold rsum at ih ⊢
      rw [List.filter_cons]
      by_cases hf : f (p, q.1, q.2) = true
      · rw [if_pos hf, if_pos hf, List.map_cons, List.sum_cons, ih]
      · rw [if_neg hf, if_neg hf, ih]; omega
    · rw [if_neg (by rw [decide_eq_false h]; exact Bool.false_ne_true), ih]
      have : q.2 = 0 := by omega
      rw [this]
      split <;> omega
section
variable {o : List (List Nat)} {one other w : List Nat} {p : Nat}
theorem sum_zip : ∀ {gs m : List Nat}, m.length = gs.length → ((gs.zip m).map fun q => q.2).sum = m.sum
  | [], [], _ => rfl
  | g :: gs, x :: m, h => by
    rw [List.zip_cons_cons, List.map_cons, List.sum_cons, List.sum_cons, sum_zip (by simpa using h)]
theorem pick_some (h : IsOrd o) (h1 : one.length = o.length) (hw : w.length = o.length) (np : NoPaper o (keep one p) w) (hp : p < o.length) :
    ∃ m, pick o one p w = some m ∧ m.length = (upset o p).length ∧ m.sum = one.getD p 0 ∧ (∀ i, am (upset o p) m i ≤ w.getD i 0) ∧ NoPaper o (keep one (p + 1)) (restOf w (upset o p) m) := by
  have rU := (mem_closed.mp (upset_closed h hp)).1
  have nd : (upset o p).Nodup := rU.1.imp fun a => Nat.ne_of_lt a
  obtain ⟨c, c1, c2, c3, c4, c5⟩ := moves h (by rw [keep_len]; exact h1) hw np hp ((keep one p).getD p 0) (Nat.le_refl _)
  have ek : (keep one p).getD p 0 = one.getD p 0 := by rw [keep_get (by omega), if_pos (Nat.le_refl _)]
  rw [ek] at c2 c5
  rw [keep_cut (by omega)] at c5
  have hin : (upset o p).map (fun g => c.getD g 0) ∈ amountsOf (one.getD p 0) ((upset o p).map fun g => w.getD g 0) := by
    refine mem_amounts.mpr ⟨by rw [List.length_map, List.length_map], ?_, fun i => ?_⟩
    · have e1 : ((upset o p).map fun g => c.getD g 0).sum = held c (upset o p) := rfl
      rw [e1, held_fsum rU, ← c2, sum_fsum c, c1]
      refine fsum_congr fun i hi => ?_
      by_cases q : i ∈ upset o p
      · rw [if_pos q]
      · rw [if_neg q]
        exact (Nat.eq_zero_of_not_pos fun z => q (c4 i z)).symm
    · rw [List.getD_eq_getElem?_getD, List.getD_eq_getElem?_getD, List.getElem?_map, List.getElem?_map]
      cases (upset o p)[i]? with
      | none => exact Nat.le_refl _
      | some g => exact c3 g
  have er : restOf w (upset o p) ((upset o p).map fun g => c.getD g 0) = minus w c := by
    refine ext_getD (by rw [rest_len]; unfold minus; simp) fun i hi => ?_
    rw [rest_len] at hi
    rw [getD_rest _ _ _ _ fun g hg => by rw [hw]; exact rU.2 g hg]
    unfold minus
    rw [getD_map_range hi, am_map _ _ _ nd]
    by_cases q : i ∈ upset o p
    · rw [if_pos q]
    · rw [if_neg q]
      have : c.getD i 0 = 0 := Nat.eq_zero_of_not_pos fun z => q (c4 i z)
      rw [this]
  have hf : (pick o one p w).isSome = true := by
    unfold pick
    rw [List.find?_isSome]
    refine ⟨_, hin, ?_⟩
    rw [er, Option.isNone_iff_eq_none, paper_none]
    exact c5
  obtain ⟨m, hm⟩ := Option.isSome_iff_exists.mp hf
  have q1 := List.mem_of_find?_eq_some hm
  have q2 := List.find?_some hm
  obtain ⟨l1, l2, l3⟩ := mem_amounts.mp q1
  rw [List.length_map] at l1
  refine ⟨m, hm, l1, l2, fun i => ?_, paper_none.mp (Option.isNone_iff_eq_none.mp q2)⟩
  exact am_le nd l3 i
theorem rowsAt_mem {m : List Nat} {r : Row} (h : r ∈ rowsAt o p m) : r.1 = p ∧ r.2.1 ∈ upset o p ∧ 0 < r.2.2 ∧ r.2.2 ∈ m := by
  obtain ⟨q, hq, rfl⟩ := List.mem_map.mp h
  obtain ⟨q1, q2⟩ := List.mem_filter.mp hq
  exact ⟨rfl, (List.of_mem_zip q1).1, of_decide_eq_true q2, (List.of_mem_zip q1).2⟩
theorem zip_pairwise : ∀ {gs m : List Nat}, gs.Pairwise (· < ·) → (gs.zip m).Pairwise fun a b => a.1 < b.1
  | [], _, _ => by simp
  | _ :: _, [], _ => by simp
  | g :: gs, x :: m, h => by
    obtain ⟨h1, h2⟩ := List.pairwise_cons.mp h
    rw [List.zip_cons_cons]
    exact List.pairwise_cons.mpr ⟨fun q hq => h1 _ (List.of_mem_zip hq).1, zip_pairwise h2⟩
structure PInv (o : List (List Nat)) (one other : List Nat) (p : Nat) (rows : List Row) (w : List Nat) : Prop where
  len : w.length = o.length
  np : NoPaper o (keep one p) w
  tot : w.sum = (keep one p).sum
  ok : ∀ r ∈ rows, r.1 < p ∧ r.1 < o.length ∧ r.2.1 < o.length ∧ 1 ≤ r.2.2 ∧ r.2.2 ≤ 9 ∧ (r.1 = r.2.1 ∨ r.2.1 ∈ above o r.1)
  srt : rows.Pairwise fun r q => r.1 < q.1 ∨ (r.1 = q.1 ∧ r.2.1 < q.2.1)
  frm : ∀ q, q < p → rsum (fun r => decide (r.1 = q)) rows = one.getD q 0
  to : ∀ q, q < o.length → rsum (fun r => decide (r.2.1 = q)) rows + w.getD q 0 = other.getD q 0
theorem am_sum (rU : Ris (upset o p) o.length) (m : List Nat) : fsum (fun i => am (upset o p) m i) o.length = (((upset o p).zip m).map fun q => q.2).sum := by
  have hb : ∀ q ∈ (upset o p).zip m, q.1 < o.length := fun q hq => rU.2 _ (List.of_mem_zip hq).1
  unfold am
  generalize (upset o p).zip m = l at hb
  induction l with
  | nil => exact fsum_zero _
  | cons q l ih =>
    have e : (fun i => ((q :: l).map fun q => if q.1 = i then q.2 else 0).sum) = fun i => (if i = q.1 then q.2 else 0) + (l.map fun q => if q.1 = i then q.2 else 0).sum := by
      funext i
      rw [List.map_cons, List.sum_cons]
      congr 1
      by_cases z : q.1 = i
      · rw [if_pos z, if_pos z.symm]
      · rw [if_neg z, if_neg (Ne.symm z)]
    rw [e, fsum_add, fsum_single _ (hb q List.mem_cons_self), ih fun x hx => hb x (List.mem_cons_of_mem _ hx), List.map_cons, List.sum_cons]
theorem pinv (h : IsOrd o) (h1 : IsW o.length one) (h2 : IsW o.length other) (hs : other.sum = one.sum) (np : NoPaper o one other) : ∀ p, p ≤ o.length → PInv o one other p (planTo o one other p).1 (planTo o one other p).2
  | 0, _ => ⟨h2.1, by rw [keep_zero]; exact np, by rw [keep_zero]; exact hs, fun _ z => (by cases z), List.Pairwise.nil, fun _ z => absurd z (Nat.not_lt_zero _), fun q _ => by
      show 0 + other.getD q 0 = other.getD q 0
      omega⟩
  | p + 1, hp => by
    have I := pinv h h1 h2 hs np p (by omega)
    obtain ⟨m, e, m1, m2, m3, m4⟩ := pick_some h h1.1 I.len I.np hp
    have rU := (mem_closed.mp (upset_closed h hp)).1
    have hlt : ∀ g ∈ upset o p, g < (planTo o one other p).2.length := fun g hg => by rw [I.len]; exact rU.2 g hg
    have e1 : (planTo o one other (p + 1)).1 = (planTo o one other p).1 ++ rowsAt o p m := by
      show (match pick o one p (planTo o one other p).2 with | some m => ((planTo o one other p).1 ++ rowsAt o p m, restOf (planTo o one other p).2 (upset o p) m) | none => planTo o one other p).1 = _
      rw [e]
    have e2 : (planTo o one other (p + 1)).2 = restOf (planTo o one other p).2 (upset o p) m := by
      show (match pick o one p (planTo o one other p).2 with | some m => ((planTo o one other p).1 ++ rowsAt o p m, restOf (planTo o one other p).2 (upset o p) m) | none => planTo o one other p).2 = _
      rw [e]
    have rs : ∀ f : Row → Bool, rsum f (rowsAt o p m) = (((upset o p).zip m).map fun q => if f (p, q.1, q.2) = true then q.2 else 0).sum := fun f => rsum_rows f p _
    rw [e1, e2]
    have hone : one.getD p 0 ≤ 9 := by
      have : one.getD p 0 ∈ one := by
        rw [List.getD_eq_getElem?_getD, List.getElem?_eq_getElem (by rw [h1.1]; exact hp)]
        exact List.getElem_mem _
      exact Nat.le_trans (le_sum this) h1.2
    refine ⟨by rw [rest_len]; exact I.len, m4, ?_, fun r hr => ?_, ?_, fun q hq => ?_, fun q hq => ?_⟩
    · have a1 : (restOf (planTo o one other p).2 (upset o p) m).sum + m.sum = (planTo o one other p).2.sum := by
        rw [sum_fsum (restOf _ _ _), sum_fsum (planTo o one other p).2, rest_len, I.len, ← sum_zip m1, ← am_sum rU, ← fsum_add]
        refine fsum_congr fun i _ => ?_
        rw [getD_rest _ _ _ _ hlt]
        have := m3 i
        omega
      have a2 := keep_sum (one := one) (p := p) (by rw [h1.1]; exact hp)
      have := I.tot
      omega
    · rcases List.mem_append.mp hr with z | z
      · obtain ⟨q1, q2⟩ := I.ok r z
        exact ⟨by omega, q2⟩
      · obtain ⟨q1, q2, q3, q4⟩ := rowsAt_mem z
        refine ⟨by omega, by omega, rU.2 _ q2, q3, ?_, ?_⟩
        · exact Nat.le_trans (le_sum q4) (by omega)
        · rw [q1]
          exact ((mem_upset h hp).mp q2).elim .inr fun z => .inl z.symm
    · refine List.pairwise_append.mpr ⟨I.srt, ?_, fun a ha b hb => .inl ?_⟩
      · unfold rowsAt
        refine List.pairwise_map.mpr (((zip_pairwise rU.1).filter _).imp fun hab => .inr ⟨rfl, hab⟩)
      · have := (I.ok a ha).1
        rw [(rowsAt_mem hb).1]; exact this
    · rw [rsum_append, rs]
      by_cases z : q = p
      · subst z
        have z0 : rsum (fun r => decide (r.1 = q)) (planTo o one other q).1 = 0 := by
          unfold rsum
          rw [List.filter_eq_nil_iff.mpr fun r hr => by
            have := (I.ok r hr).1
            simp; omega]
          rfl
        rw [z0, Nat.zero_add]
        have : (((upset o q).zip m).map fun r => if decide (q = q) = true then r.2 else 0).sum = m.sum := by
          rw [← sum_zip m1]
          congr 1
          exact List.map_congr_left fun r _ => by simp
        exact this.trans m2
      · have z0 : (((upset o p).zip m).map fun r => if decide (p = q) = true then r.2 else 0).sum = 0 := by
          refine Eq.trans (sum_map_congr (g := fun _ => 0) fun r _ => ?_) ?_
          · rw [if_neg]; simp; omega
          · generalize (upset o p).zip m = l
            induction l with
            | nil => rfl
            | cons x l ih => rw [List.map_cons, List.sum_cons, ih]
        rw [show (((upset o p).zip m).map fun r => if decide (((p, r.1, r.2) : Row).1 = q) = true then r.2 else 0).sum = 0 from z0]
        exact I.frm q (by omega)
    · rw [rsum_append, rs, getD_rest _ _ _ _ hlt]
      have a1 := I.to q hq
      have a2 := m3 q
      have a3 : (((upset o p).zip m).map fun r => if decide (((p, r.1, r.2) : Row).2.1 = q) = true then r.2 else 0).sum = am (upset o p) m q := by
        unfold am
        exact sum_map_congr fun r _ => by simp
      rw [a3]
      omega
theorem firstPlan_ok (h : IsOrd o) (h1 : IsW o.length one) (h2 : IsW o.length other) (hs : other.sum = one.sum) (np : NoPaper o one other) : IsPl o one other (firstPlan o one other) := by
  have I := pinv h h1 h2 hs np o.length (Nat.le_refl _)
  have hz : ∀ q, (planTo o one other o.length).2.getD q 0 = 0 := fun q => by
    have e := I.tot
    rw [← h1.1, keep_end] at e
    by_cases hq : q < (planTo o one other o.length).2.length
    · have : (planTo o one other o.length).2.getD q 0 ∈ (planTo o one other o.length).2 := by
        rw [List.getD_eq_getElem?_getD, List.getElem?_eq_getElem hq]
        exact List.getElem_mem _
      have := le_sum this
      rw [h1.1] at e
      omega
    · rw [List.getD_eq_getElem?_getD, List.getElem?_eq_none (by omega)]; rfl
  exact ⟨fun r hr => (I.ok r hr).2, I.srt, fun p hp => I.frm p hp, fun p hp => by
    have := I.to p hp
    rw [hz] at this
    exact this⟩
end
end UP

namespace UP
open PySem PySem.Spec L2
def encP : Option (List Nat) → PyData
  | none => .none
  | some s => encR s
def enc2 (q : Nat × Nat) : PyData := .tuple [encN q.1, encN q.2]
def encRow (r : Row) : PyData := .tuple [encN r.1, encN r.2.1, encN r.2.2]
def encPl (rows : List Row) : PyData := .tuple (rows.map encRow)
def encL (x : List Nat) : PyData := .list (x.map encN)
theorem find_first {α : Type} {xs : List α} {pr : α → Bool} {i : Nat} {y : α} (hb : ∀ j, j < i → ∀ z, xs[j]? = some z → pr z = false) (hi : xs[i]? = some y) (hy : pr y = true) : xs.find? pr = some y := by
  induction xs generalizing i with
  | nil => cases hi
  | cons x xs ih =>
    cases i with
    | zero => cases hi; rw [List.find?_cons, hy]
    | succ i =>
      rw [List.find?_cons, hb 0 (by omega) x rfl]
      exact ih (fun j hj z hz => hb (j + 1) (by omega) z hz) hi
theorem find_no {α : Type} {xs : List α} {pr : α → Bool} (hb : ∀ j, j < xs.length → ∀ z, xs[j]? = some z → pr z = false) : xs.find? pr = none := by
  rw [List.find?_eq_none]
  intro x hx q
  obtain ⟨j, hj⟩ := List.mem_iff_getElem?.mp hx
  have := hb j (List.getElem?_eq_some_iff.mp hj).1 x hj
  rw [q] at this
  cases this
/-- units that move at least -/
def moved (a b : List Nat) : Nat := ((a.zip b).map fun q => q.1 - q.2).sum
def linksOf (o : List (List Nat)) : List (Nat × Nat) := (List.range o.length).flatMap fun p => (upset o p).map fun g => (p, g)
theorem upset_eq (o : List (List Nat)) (p : Nat) : ((List.range o.length).filter fun g => (decide (g = p) || decide (g ∈ above o p))) = upset o p := by
  unfold upset asc
  refine List.filter_congr fun g _ => ?_
  rw [Bool.eq_iff_iff]
  simp [List.mem_append]
  exact Or.comm
theorem links_at {o : List (List Nat)} {p : Nat} (hp : p < o.length) : ((linksOf o).filter fun q => decide (q.1 = p)).map (·.2) = upset o p := by
  unfold linksOf
  have e : ∀ n, (((List.range n).flatMap fun p => (upset o p).map fun g => (p, g)).filter fun q => decide (q.1 = p)).map (·.2) = if p < n then upset o p else [] := by
    intro n
    induction n with
    | zero => rfl
    | succ n ih =>
      rw [List.range_succ, List.flatMap_append, List.filter_append, List.map_append, ih]
      have e2 : [n].flatMap (fun p => (upset o p).map fun g => (p, g)) = (upset o n).map fun g => (n, g) := by simp
      rw [e2]
      by_cases h : n = p
      · subst h
        rw [if_neg (by omega), if_pos (by omega), List.filter_eq_self.mpr fun q hq => by
          obtain ⟨g, _, rfl⟩ := List.mem_map.mp hq
          exact decide_eq_true rfl]
        rw [List.map_map]
        exact (List.map_id _)
      · rw [List.filter_eq_nil_iff.mpr fun q hq => by
          obtain ⟨g, _, rfl⟩ := List.mem_map.mp hq
          simp; exact h]
        rw [List.map_nil, List.append_nil]
        by_cases q : p < n
        · rw [if_pos q, if_pos (by omega)]
        · rw [if_neg q, if_neg (by omega)]
  rw [e, if_pos hp]
theorem links_len (o : List (List Nat)) (h : o.length ≤ 6) : (linksOf o).length ≤ 36 := by
  unfold linksOf
  refine Nat.le_trans (flatMap_len _ 6 _ fun p _ => ?_) (by rw [List.length_range]; exact Nat.mul_le_mul_right 6 h)
  rw [List.length_map]
  exact Nat.le_trans (rise_len (asc_ris _ _).1 (asc_ris _ _).2) h
theorem upset_len (o : List (List Nat)) (p : Nat) : (upset o p).length ≤ o.length := rise_len (asc_ris _ _).1 (asc_ris _ _).2
theorem rest_snoc : ∀ (gs ms w : List Nat) (g m : Nat), gs.length = ms.length → restOf w (gs ++ [g]) (ms ++ [m]) = (restOf w gs ms).set g ((restOf w gs ms).getD g 0 - m)
  | [], [], w, g, m, _ => by
    show restOf (w.set g (w.getD g 0 - m)) [] [] = _
    unfold restOf; rfl
  | x :: gs, y :: ms, w, g, m, h => by
    show restOf (w.set x (w.getD x 0 - y)) (gs ++ [g]) (ms ++ [m]) = (restOf (w.set x (w.getD x 0 - y)) gs ms).set g ((restOf (w.set x (w.getD x 0 - y)) gs ms).getD g 0 - m)
    exact rest_snoc gs ms _ g m (by simpa using h)
theorem amounts_z {t : Nat} {ms : List Nat} (ht : t ≤ 9) (hm : ms.length ≤ 6) : (amountsOf t ms).length ≤ 1000000 :=
  Nat.le_trans (amounts_len ms t) (Nat.le_trans (Nat.pow_le_pow_left (show t + 1 ≤ 10 by omega) _) (Nat.le_trans (Nat.pow_le_pow_right (by decide) hm) (by decide)))
theorem zbig {n : Nat} (h : n ≤ 1000000) : n ≤ sizeLine := Nat.le_trans h (by decide)
theorem eqv_eqN (n m : Nat) : PyData.eqv (encN n) (.int (m : Int)) = decide (n = m) := eqv_encN n m
/-- a def that asks whether moves lead there -/
def ReachR (c : Cl) (k : List (List Nat) → List Nat → List Nat → Out → Prop) : List (List Nat) → List Nat → List Nat → Out → Prop := fun or a b o => (¬ NoPaper or a b ∧ o = .exc (.ref c.cr) none) ∨ (NoPaper or a b ∧ k or a b o)
theorem isNone_encP2 (q : Option (List Nat)) : isNone (encP q) = q.isNone := by cases q <;> rfl
end UP

namespace UP
open PySem PySem.Spec L2
def RowOk (o : List (List Nat)) (r : Row) : Prop := r.1 < o.length ∧ r.2.1 < o.length ∧ 1 ≤ r.2.2 ∧ r.2.2 ≤ 9 ∧ (r.1 = r.2.1 ∨ r.2.1 ∈ above o r.1)
def RowD (o : List (List Nat)) (d : PyData) : Prop := ∃ r, d = encRow r ∧ RowOk o r
def IsPlD (o : List (List Nat)) (a b : List Nat) (d : PyData) : Prop := ∃ rows, d = encPl rows ∧ IsPl o a b rows
theorem encRow_inj {r q : Row} (h : encRow r = encRow q) : r = q := by
  obtain ⟨a, b, c⟩ := r
  obtain ⟨x, y, z⟩ := q
  unfold encRow encN at h
  simp at h
  obtain ⟨h1, h2, h3⟩ := h
  have : a = x := by omega
  have : b = y := by omega
  have : c = z := by omega
  subst_vars; rfl
theorem encPl_inj {r q : List Row} (h : encPl r = encPl q) : r = q := by
  unfold encPl at h
  injection h with h
  exact List.map_inj_right (fun _ _ => encRow_inj) |>.mp h
/-- rows of a tuple whose items are all rows -/
theorem rows_all {o : List (List Nat)} : ∀ {ds : List PyData}, (∀ d ∈ ds, RowD o d) → ∃ rows : List Row, ds = rows.map encRow ∧ ∀ r ∈ rows, RowOk o r
  | [], _ => ⟨[], rfl, fun _ h => by cases h⟩
  | d :: ds, h => by
    obtain ⟨r, rfl, hr⟩ := h d List.mem_cons_self
    obtain ⟨rows, rfl, hrs⟩ := rows_all fun x hx => h x (List.mem_cons_of_mem _ hx)
    exact ⟨r :: rows, rfl, fun x hx => (List.mem_cons.mp hx).elim (fun z => z ▸ hr) (hrs x)⟩
def lexR (r q : Row) : Prop := r.1 < q.1 ∨ (r.1 = q.1 ∧ r.2.1 < q.2.1)
theorem lexR_trans {a b c : Row} (h1 : lexR a b) (h2 : lexR b c) : lexR a c := by
  unfold lexR at *
  omega
theorem chain_pair : ∀ {rows : List Row}, (∀ q ∈ rows.zip (rows.drop 1), lexR q.1 q.2) → rows.Pairwise lexR
  | [], _ => List.Pairwise.nil
  | [r], _ => List.pairwise_singleton _ _
  | r :: q :: rows, h => by
    have ih : (q :: rows).Pairwise lexR := chain_pair fun x hx => h x (List.mem_cons_of_mem _ hx)
    have h0 : lexR r q := h (r, q) List.mem_cons_self
    refine List.pairwise_cons.mpr ⟨fun x hx => ?_, ih⟩
    rcases List.mem_cons.mp hx with e | e
    · rw [e]; exact h0
    · exact lexR_trans h0 ((List.pairwise_cons.mp ih).1 x e)
theorem pair_chain : ∀ {rows : List Row}, rows.Pairwise lexR → ∀ q ∈ rows.zip (rows.drop 1), lexR q.1 q.2
  | [], _, q, h => by cases h
  | [r], _, q, h => by cases h
  | r :: s :: rows, hp, q, h => by
    obtain ⟨h1, h2⟩ := List.pairwise_cons.mp hp
    rcases List.mem_cons.mp h with e | e
    · rw [e]; exact h1 s List.mem_cons_self
    · exact pair_chain h2 q e
instance (r q : Row) : Decidable (lexR r q) := by unfold lexR; exact inferInstance
theorem ge_lex (r q : Row) : geI [(r.1 : Int), (r.2.1 : Int)] [(q.1 : Int), (q.2.1 : Int)] = !decide (lexR r q) := by
  rw [geI_pair]
  by_cases h : lexR r q
  · rw [decide_eq_true h]
    unfold lexR at h
    by_cases h1 : r.1 = q.1
    · rw [if_pos (by omega), if_neg (by omega), decide_eq_false (by omega)]; rfl
    · rw [if_neg (by omega), decide_eq_false (by omega)]; rfl
  · rw [decide_eq_false h]
    unfold lexR at h
    by_cases h1 : r.1 = q.1
    · rw [if_pos (by omega)]
      by_cases h2 : r.2.1 = q.2.1
      · rw [if_pos (by omega)]; rfl
      · rw [if_neg (by omega), decide_eq_true (by omega)]; rfl
    · rw [if_neg (by omega), decide_eq_true (by omega)]; rfl
end UP

namespace UP
open PySem PySem.Spec L2
/-! ### the laws' own pairs of weights -/
def stepN (v : List Nat) (s g : Nat) : List Nat := (List.range v.length).map fun i => v.getD i 0 - (if i = s then 1 else 0) + (if i = g then 1 else 0)
theorem stepN_len (v : List Nat) (s g : Nat) : (stepN v s g).length = v.length := by unfold stepN; simp
theorem stepN_get {v : List Nat} {s g i : Nat} (h : i < v.length) : (stepN v s g).getD i 0 = v.getD i 0 - (if i = s then 1 else 0) + (if i = g then 1 else 0) := getD_map_range h
theorem stepN_sum {v : List Nat} {s g : Nat} (hs : s < v.length) (hg : g < v.length) (h0 : 0 < v.getD s 0) : (stepN v s g).sum = v.sum := by
  have e : (stepN v s g).sum + 1 = v.sum + 1 := by
    rw [sum_fsum (stepN v s g), sum_fsum v, stepN_len]
    have e1 : 1 = fsum (fun i => if i = s then 1 else 0) v.length := (fsum_single 1 hs).symm
    have e2 : 1 = fsum (fun i => if i = g then 1 else 0) v.length := (fsum_single 1 hg).symm
    have l : fsum (fun i => (stepN v s g).getD i 0) v.length + 1 = fsum (fun i => (stepN v s g).getD i 0 + if i = s then 1 else 0) v.length := by rw [fsum_add]; omega
    have r : fsum (fun i => v.getD i 0) v.length + 1 = fsum (fun i => v.getD i 0 + if i = g then 1 else 0) v.length := by rw [fsum_add]; omega
    rw [l, r]
    refine fsum_congr fun i hi => ?_
    rw [stepN_get hi]
    by_cases q : i = s
    · subst q; rw [if_pos rfl]; omega
    · rw [if_neg q]; omega
  omega
def freeOf (o : List (List Nat)) (v : List Nat) : List Nat := (List.range o.length).filter fun p => (decide (0 < v.getD p 0) && decide (above o p ≠ []))
def fullOf (o : List (List Nat)) (v : List Nat) : List Nat := (List.range o.length).filter fun p => decide (0 < v.getD p 0)
def pairStep (D : Nat → Nat) (o : List (List Nat)) (v : List Nat) (t : Nat) : List Nat :=
  if freeOf o v = [] then v else
    let p := (freeOf o v).getD (D (1 + t) % (freeOf o v).length) 0
    stepN v p ((above o p).getD (D (15 + t) % (above o p).length) 0)
def pairTo (D : Nat → Nat) (o : List (List Nat)) (v : List Nat) : Nat → List Nat
  | 0 => v
  | t + 1 => pairStep D o (pairTo D o v t) t
def lawP (D : Nat → Nat) (o : List (List Nat)) (v : List Nat) : List Nat :=
  let u := pairTo D o v (D 0 % 9)
  if D 30 % 3 = 0 ∧ 0 < u.sum then stepN u ((fullOf o u).getD (D 31 % (fullOf o u).length) 0) (D 32 % o.length) else u
theorem getD_mem {l : List Nat} {i : Nat} (h : i < l.length) : l.getD i 0 ∈ l := by
  rw [List.getD_eq_getElem?_getD, List.getElem?_eq_getElem h]
  exact List.getElem_mem _
theorem get_some {l : List Nat} {i : Nat} (h : i < l.length) : l[i]? = some (l.getD i 0) := by
  rw [List.getD_eq_getElem?_getD, List.getElem?_eq_getElem h]; rfl
theorem free_mem {o : List (List Nat)} {v : List Nat} {p : Nat} (h : p ∈ freeOf o v) : p < o.length ∧ 0 < v.getD p 0 ∧ above o p ≠ [] := by
  obtain ⟨h1, h2⟩ := List.mem_filter.mp h
  rw [Bool.and_eq_true] at h2
  exact ⟨List.mem_range.mp h1, of_decide_eq_true h2.1, of_decide_eq_true h2.2⟩
theorem full_mem {o : List (List Nat)} {v : List Nat} {p : Nat} (h : p ∈ fullOf o v) : p < o.length ∧ 0 < v.getD p 0 := by
  obtain ⟨h1, h2⟩ := List.mem_filter.mp h
  exact ⟨List.mem_range.mp h1, of_decide_eq_true h2⟩
section
variable {o : List (List Nat)} {v : List Nat} {D : Nat → Nat}
theorem pairStep_ok (h : IsOrd o) (hv : v.length = o.length) (t : Nat) : (pairStep D o v t).length = o.length ∧ (pairStep D o v t).sum = v.sum := by
  unfold pairStep
  by_cases e : freeOf o v = []
  · rw [if_pos e]; exact ⟨hv, rfl⟩
  · rw [if_neg e]
    have hl : 0 < (freeOf o v).length := List.length_pos_iff.mpr e
    obtain ⟨h1, h2, h3⟩ := free_mem (getD_mem (Nat.mod_lt (D (1 + t)) hl))
    have hl2 := List.length_pos_iff.mpr h3
    have h4 := (h.ris h1).2 _ (getD_mem (Nat.mod_lt (D (15 + t)) hl2))
    exact ⟨by rw [stepN_len]; exact hv, stepN_sum (by omega) (by omega) h2⟩
theorem pairTo_ok (h : IsOrd o) (hv : v.length = o.length) : ∀ t, (pairTo D o v t).length = o.length ∧ (pairTo D o v t).sum = v.sum
  | 0 => ⟨hv, rfl⟩
  | t + 1 => by
    obtain ⟨h1, h2⟩ := pairTo_ok h hv t
    obtain ⟨h3, h4⟩ := pairStep_ok (D := D) h h1 t
    exact ⟨h3, h4.trans h2⟩
theorem full_pos (hv : v.length = o.length) (h : 0 < v.sum) : fullOf o v ≠ [] := fun e => by
  have : v.sum = 0 := by
    rw [sum_fsum]
    refine Eq.trans (fsum_congr (g := fun _ => 0) fun i hi => ?_) (fsum_zero _)
    refine Nat.eq_zero_of_not_pos fun z => ?_
    have : i ∈ fullOf o v := List.mem_filter.mpr ⟨List.mem_range.mpr (by omega), decide_eq_true z⟩
    rw [e] at this
    cases this
  omega
theorem lawP_ok (h : IsOrd o) (hv : IsW o.length v) : IsW o.length (lawP D o v) ∧ (lawP D o v).sum = v.sum := by
  obtain ⟨h1, h2⟩ := pairTo_ok (D := D) h hv.1 (D 0 % 9)
  have key : (lawP D o v).length = o.length ∧ (lawP D o v).sum = v.sum := by
    unfold lawP
    show (if D 30 % 3 = 0 ∧ 0 < (pairTo D o v (D 0 % 9)).sum then _ else pairTo D o v (D 0 % 9)).length = _ ∧ (if D 30 % 3 = 0 ∧ 0 < (pairTo D o v (D 0 % 9)).sum then _ else pairTo D o v (D 0 % 9)).sum = _
    by_cases e : D 30 % 3 = 0 ∧ 0 < (pairTo D o v (D 0 % 9)).sum
    · rw [if_pos e]
      have hl := List.length_pos_iff.mpr (full_pos h1 e.2)
      obtain ⟨g1, g2⟩ := full_mem (getD_mem (Nat.mod_lt (D 31) hl))
      have g3 := Nat.mod_lt (D 32) (show o.length > 0 from h.pos)
      exact ⟨by rw [stepN_len]; exact h1, (stepN_sum (by omega) (by omega) g2).trans h2⟩
    · rw [if_neg e]; exact ⟨h1, h2⟩
  exact ⟨⟨key.1, by rw [key.2]; exact hv.2⟩, key.2⟩
end
theorem planTo_len {o : List (List Nat)} {a b : List Nat} (ho : IsOrd o) (ha : IsW o.length a) (hb : IsW o.length b) (hs : b.sum = a.sum) (np : NoPaper o a b) : ∀ i, i ≤ o.length → (planTo o a b i).1.length ≤ i * 6
  | 0, _ => Nat.le_refl _
  | i + 1, hi => by
    have I := pinv ho ha hb hs np i (by omega)
    obtain ⟨m, e, m1, _⟩ := pick_some ho ha.1 I.len I.np hi
    have e1 : (planTo o a b (i + 1)).1 = (planTo o a b i).1 ++ rowsAt o i m := by
      show (match pick o a i (planTo o a b i).2 with | some m => ((planTo o a b i).1 ++ rowsAt o i m, restOf (planTo o a b i).2 (upset o i) m) | none => planTo o a b i).1 = _
      rw [e]
    have := planTo_len ho ha hb hs np i (by omega)
    have : (rowsAt o i m).length ≤ 6 := by
      unfold rowsAt
      rw [List.length_map]
      refine Nat.le_trans (filt_len _ _) ?_
      rw [List.length_zip]
      have := upset_len o i
      have := ho.most
      omega
    rw [e1, List.length_append]
    omega
theorem firstPlan_len {o : List (List Nat)} {a b : List Nat} (ho : IsOrd o) (ha : IsW o.length a) (hb : IsW o.length b) (hs : b.sum = a.sum) (np : NoPaper o a b) : (firstPlan o a b).length ≤ 36 := by
  have := planTo_len ho ha hb hs np o.length (Nat.le_refl _)
  have := ho.most
  unfold firstPlan
  omega
end UP

namespace UP
open PySem PySem.Spec L2
/-! ### the order upside down -/
def lowO (o : List (List Nat)) : List (List Nat) := (List.range o.length).map fun p => (List.range o.length).filter fun q => decide (p ∈ above o q)
def compl (n : Nat) (s : List Nat) : List Nat := (List.range n).filter fun p => !decide (p ∈ s)
theorem low_len (o : List (List Nat)) : (lowO o).length = o.length := by unfold lowO; simp
theorem above_low {o : List (List Nat)} {p : Nat} (hp : p < o.length) : above (lowO o) p = (List.range o.length).filter fun q => decide (p ∈ above o q) := by
  show (lowO o).getD p [] = _
  unfold lowO
  rw [List.getD_eq_getElem?_getD, List.getElem?_map, List.getElem?_range hp]; rfl
theorem mem_low {o : List (List Nat)} {p q : Nat} (hp : p < o.length) : q ∈ above (lowO o) p ↔ q < o.length ∧ p ∈ above o q := by
  rw [above_low hp, List.mem_filter, List.mem_range, decide_eq_true_iff]
theorem mem_compl {n : Nat} {s : List Nat} {x : Nat} : x ∈ compl n s ↔ x < n ∧ x ∉ s := by
  unfold compl
  rw [List.mem_filter, List.mem_range]
  simp
theorem compl_ris (n : Nat) (s : List Nat) : Ris (compl n s) n := ⟨List.pairwise_lt_range.filter _, fun x hx => (mem_compl.mp hx).1⟩
theorem compl_compl {n : Nat} {s : List Nat} (h : Ris s n) : compl n (compl n s) = s := ris_uniq (compl_ris _ _).1 h.1 fun k => by
  rw [mem_compl, mem_compl]
  constructor
  · rintro ⟨h1, h2⟩
    exact Classical.byContradiction fun q => h2 ⟨h1, q⟩
  · intro q
    exact ⟨h.2 k q, fun z => z.2 q⟩
theorem low_ord {o : List (List Nat)} (h : IsOrd o) : IsOrd (lowO o) := by
  have hr : ∀ p r, (lowO o)[p]? = some r → p < o.length ∧ r = above (lowO o) p := fun p r e => by
    have hp : p < o.length := by rw [← low_len o]; exact (List.getElem?_eq_some_iff.mp e).1
    refine ⟨hp, ?_⟩
    show r = (lowO o).getD p []
    rw [List.getD_eq_getElem?_getD, e]; rfl
  refine ⟨by rw [low_len]; exact h.pos, by rw [low_len]; exact h.most, fun r hr' => ?_, fun p r e hm => ?_, fun p q r r' e1 hq e2 m hm => ?_⟩
  · obtain ⟨p, hp, rfl⟩ := List.mem_map.mp hr'
    rw [low_len]
    exact ⟨List.pairwise_lt_range.filter _, fun x hx => List.mem_range.mp (List.mem_filter.mp hx).1⟩
  · obtain ⟨hp, rfl⟩ := hr p r e
    obtain ⟨h1, h2⟩ := (mem_low hp).mp hm
    exact h.irr p _ (h.row hp) h2
  · obtain ⟨hp, rfl⟩ := hr p r e1
    obtain ⟨hq', rfl⟩ := hr q r' e2
    obtain ⟨a1, a2⟩ := (mem_low hp).mp hq
    obtain ⟨b1, b2⟩ := (mem_low hq').mp hm
    exact (mem_low hp).mpr ⟨b1, h.tr m q _ _ (h.row b1) b2 (h.row hq') p a2⟩
section
variable {o : List (List Nat)}
theorem compl_closed (h : IsOrd o) {s : List Nat} (hs : s ∈ closedSets o) : compl o.length s ∈ closedSets (lowO o) := by
  obtain ⟨r, c⟩ := mem_closed.mp hs
  refine mem_closed.mpr ⟨by rw [low_len]; exact compl_ris _ _, clo_iff.mpr fun p hp m hm => ?_⟩
  obtain ⟨p1, p2⟩ := mem_compl.mp hp
  obtain ⟨m1, m2⟩ := (mem_low p1).mp hm
  exact mem_compl.mpr ⟨m1, fun z => p2 (clo_iff.mp c m z p m2)⟩
theorem compl_closed' (h : IsOrd o) {t : List Nat} (ht : t ∈ closedSets (lowO o)) : compl o.length t ∈ closedSets o := by
  obtain ⟨r, c⟩ := mem_closed.mp ht
  rw [low_len] at r
  refine mem_closed.mpr ⟨compl_ris _ _, clo_iff.mpr fun p hp m hm => ?_⟩
  obtain ⟨p1, p2⟩ := mem_compl.mp hp
  have m1 := (h.ris p1).2 m hm
  exact mem_compl.mpr ⟨m1, fun z => p2 (clo_iff.mp c m z p ((mem_low m1).mpr ⟨p1, hm⟩))⟩
theorem closed_low (h : IsOrd o) : closedSets (lowO o) = sortN ((closedSets o).map (compl o.length)) := by
  refine srtN_uniq (sortN_sorted _) (sortN_sorted _) ?_
  refine List.Perm.trans ?_ (sortN_perm _).symm
  have nd2 : ((closedSets o).map (compl o.length)).Nodup := by
    refine List.pairwise_map.mpr ((closed_nodup o).imp_of_mem fun {x y} hx hy ne e => ne ?_)
    rw [← compl_compl (mem_closed.mp hx).1, e, compl_compl (mem_closed.mp hy).1]
  refine (List.perm_ext_iff_of_nodup (closed_nodup _) nd2).mpr fun t => ?_
  rw [List.mem_map]
  constructor
  · intro ht
    have r := (mem_closed.mp ht).1
    rw [low_len] at r
    exact ⟨_, compl_closed' h ht, compl_compl r⟩
  · rintro ⟨s, hs, rfl⟩
    exact compl_closed h hs
theorem held_compl {n : Nat} {v s : List Nat} (hv : v.length = n) (hs : Ris s n) : held v s + held v (compl n s) = v.sum := by
  rw [held_fsum hs, held_fsum (compl_ris n s), sum_fsum, hv, ← fsum_add]
  refine fsum_congr fun i hi => ?_
  by_cases q : i ∈ s
  · rw [if_pos q, if_neg (fun z => (mem_compl.mp z).2 q)]; rfl
  · rw [if_neg q, if_pos (mem_compl.mpr ⟨hi, q⟩)]; omega
theorem low_paper (h : IsOrd o) {a b : List Nat} (ha : a.length = o.length) (hb : b.length = o.length) (hs : b.sum = a.sum) : NoPaper (lowO o) b a ↔ NoPaper o a b := by
  constructor
  · intro np s hs'
    have r := (mem_closed.mp hs').1
    have e1 := held_compl ha r
    have e2 := held_compl hb r
    have := np _ (compl_closed h hs')
    omega
  · intro np t ht
    have r := (mem_closed.mp ht).1
    rw [low_len] at r
    have e1 := held_compl ha r
    have e2 := held_compl hb r
    have := np _ (compl_closed' h ht)
    omega
end
theorem moved_add : ∀ a b : List Nat, a.length = b.length → moved a b + b.sum = moved b a + a.sum
  | [], [], _ => rfl
  | x :: a, y :: b, h => by
    have ih := moved_add a b (by simpa using h)
    unfold moved at ih ⊢
    rw [List.zip_cons_cons, List.zip_cons_cons, List.map_cons, List.map_cons, List.sum_cons, List.sum_cons, List.sum_cons, List.sum_cons]
    have : x - y + y = y - x + x := by omega
    show x - y + _ + (y + b.sum) = y - x + _ + (x + a.sum)
    omega
theorem moved_comm {a b : List Nat} (h : a.length = b.length) (hs : b.sum = a.sum) : moved b a = moved a b := by
  have := moved_add a b h
  omega
/-! ### a plan upside down -/
def tri (r : Row) : List Nat := [r.2.1, r.1, r.2.2]
def ofTri (l : List Nat) : Row := (l.getD 0 0, l.getD 1 0, l.getD 2 0)
def flip (r : Row) : Row := (r.2.1, r.1, r.2.2)
theorem ofTri_tri (r : Row) : ofTri (tri r) = flip r := rfl
def backPlan (rows : List Row) : List Row := (sortN (rows.map tri)).map ofTri
theorem sum_perm {l m : List Nat} (h : l.Perm m) : l.sum = m.sum := by
  induction h with
  | nil => rfl
  | cons x _ ih => rw [List.sum_cons, List.sum_cons, ih]
  | swap x y l => rw [List.sum_cons, List.sum_cons, List.sum_cons, List.sum_cons]; omega
  | trans _ _ h1 h2 => exact h1.trans h2
theorem rsum_perm {l m : List Row} (h : l.Perm m) (f : Row → Bool) : rsum f l = rsum f m := sum_perm ((h.filter f).map _)
theorem back_perm (rows : List Row) : (backPlan rows).Perm (rows.map flip) := by
  unfold backPlan
  have := (sortN_perm (rows.map tri)).map ofTri
  rw [List.map_map] at this
  exact this
theorem rsum_flip (f : Row → Bool) : ∀ rows : List Row, rsum f (rows.map flip) = rsum (fun r => f (flip r)) rows
  | [] => rfl
  | r :: rows => by
    have ih := rsum_flip f rows
    unfold rsum at ih ⊢
    rw [List.map_cons, List.filter_cons, List.filter_cons]
    by_cases h : f (flip r) = true
    · rw [if_pos h, if_pos h, List.map_cons, List.map_cons, List.sum_cons, List.sum_cons, ih]; rfl
    · rw [if_neg h, if_neg h, ih]
theorem back_enc {rows : List Row} : (backPlan rows).map encRow = (sortN (rows.map tri)).map encR := by
  unfold backPlan
  rw [List.map_map]
  refine List.map_congr_left fun l hl => ?_
  obtain ⟨r, _, rfl⟩ := List.mem_map.mp ((sortN_perm _).mem_iff.mp hl)
  rfl
theorem back_plan {o : List (List Nat)} {a b : List Nat} {rows : List Row} (h : IsOrd o) (I : IsPl o a b rows) : IsPl (lowO o) b a (backPlan rows) := by
  have pm := back_perm rows
  refine ⟨fun r hr => ?_, ?_, fun p hp => ?_, fun p hp => ?_⟩
  · obtain ⟨q, hq, rfl⟩ := List.mem_map.mp (pm.mem_iff.mp hr)
    obtain ⟨h1, h2, h3, h4, h5⟩ := I.ok q hq
    rw [low_len]
    refine ⟨h2, h1, h3, h4, ?_⟩
    rcases h5 with z | z
    · exact .inl z.symm
    · exact .inr ((mem_low h2).mpr ⟨h1, z⟩)
  · have d0 : (rows.map tri).Pairwise fun x y => ¬ (x.getD 0 0 = y.getD 0 0 ∧ x.getD 1 0 = y.getD 1 0) := List.pairwise_map.mpr (I.srt.imp fun {x y} hxy z => by
      obtain ⟨z1, z2⟩ := z
      have z1' : x.2.1 = y.2.1 := z1
      have z2' : x.1 = y.1 := z2
      omega)
    have d1 : (sortN (rows.map tri)).Pairwise fun x y => ¬ (x.getD 0 0 = y.getD 0 0 ∧ x.getD 1 0 = y.getD 1 0) := (sortN_perm _).symm.pairwise d0 fun {x y} hxy z => hxy ⟨z.1.symm, z.2.symm⟩
    have d2 : SrtN (sortN (rows.map tri)) := sortN_sorted _
    unfold backPlan
    refine List.pairwise_map.mpr ((d1.and d2).imp_of_mem fun {x y} hx hy hxy => ?_)
    obtain ⟨r, _, rfl⟩ := List.mem_map.mp ((sortN_perm _).mem_iff.mp hx)
    obtain ⟨q, _, rfl⟩ := List.mem_map.mp ((sortN_perm _).mem_iff.mp hy)
    obtain ⟨n1, n2⟩ := hxy
    have n1' : ¬ (r.2.1 = q.2.1 ∧ r.1 = q.1) := n1
    have n2' : lexN [q.2.1, q.1, q.2.2] [r.2.1, r.1, r.2.2] = false := n2
    show r.2.1 < q.2.1 ∨ (r.2.1 = q.2.1 ∧ r.1 < q.1)
    unfold lexN at n2'
    by_cases e1 : q.2.1 = r.2.1
    · rw [if_pos e1] at n2'
      unfold lexN at n2'
      by_cases e2 : q.1 = r.1
      · exact absurd ⟨e1.symm, e2.symm⟩ n1'
      · rw [if_neg e2] at n2'
        have := of_decide_eq_false n2'
        omega
    · rw [if_neg e1] at n2'
      have := of_decide_eq_false n2'
      omega
  · rw [low_len] at hp
    rw [rsum_perm pm, rsum_flip]
    exact I.to p hp
  · rw [low_len] at hp
    rw [rsum_perm pm, rsum_flip]
    exact I.frm p hp
end UP

namespace UP
open PySem PySem.Spec L2
/-! ### sorted(set(pairs)) -/
def ofQ (q : Nat × Nat) : List Int := [(q.1 : Int), (q.2 : Int)]
def lex2 (q r : Nat × Nat) : Prop := q.1 < r.1 ∨ (q.1 = r.1 ∧ q.2 < r.2)
theorem ofQ_inj {q r : Nat × Nat} (h : ofQ q = ofQ r) : q = r := by
  obtain ⟨a, b⟩ := q
  obtain ⟨c, d⟩ := r
  unfold ofQ at h
  simp at h
  obtain ⟨h1, h2⟩ := h
  have : a = c := by omega
  have : b = d := by omega
  subst_vars; rfl
theorem enc2_I (q : Nat × Nat) : enc2 q = encI (ofQ q) := rfl
theorem pairs_at {K : PySem.W.Frag} {G : Hp} : ∀ {vs : List V} {xs : List (Nat × Nat)}, DqAll K G vs (xs.map enc2) → ∃ ks : List (Addr × List Int), vs = ks.map (fun p => V.ref p.1) ∧ ks.map (·.2) = xs.map ofQ ∧ ∀ p ∈ ks, G p.1 = some (.tup (p.2.map V.int))
  | [], [], _ => ⟨[], rfl, rfl, fun _ h => by cases h⟩
  | _, q :: xs, h => by
    cases h with
    | cons h1 h2 =>
      obtain ⟨ks, e1, e2, e3⟩ := pairs_at h2
      cases h1 with
      | tup g1 z d =>
        rename_i a ws
        have ew : ws = (ofQ q).map V.int := DqAll.ints (ns := ofQ q) d
        subst ew
        refine ⟨(a, ofQ q) :: ks, by rw [List.map_cons, ← e1], by rw [List.map_cons, List.map_cons, e2], fun p hp => ?_⟩
        rcases List.mem_cons.mp hp with z | z
        · rw [z]; exact g1
        · exact e3 p z
theorem pairs_dq {K : PySem.W.Frag} {G : Hp} : ∀ {ks : List (Addr × List Int)}, (∀ p ∈ ks, G p.1 = some (.tup (p.2.map V.int)) ∧ p.2.length ≤ 1000) → DqAll K G (ks.map fun p => V.ref p.1) ((ks.map (·.2)).map encI)
  | [], _ => .nil
  | p :: ks, h => .cons (.tup (h p List.mem_cons_self).1 (by rw [List.length_map]; exact z1000 (h p List.mem_cons_self).2) (DqAll.of_ints _)) (pairs_dq fun q hq => h q (List.mem_cons_of_mem _ hq))
section
variable {X : Cx} {B : Bs} {ρ : DEnv} {e : Expr} {p p2 pos pos2 : Pos}
theorem ev_sortedSetP {xs ys : List (Nat × Nat)} (bi : BI X.mg) (hc : X.calm = true) (hu : X.A.units + 65 < cLine) (ha : EVo X B ρ e (.list (xs.map enc2))) (hz : xs.length < 64) (hb : ∀ q ∈ xs, q.1 < 64 ∧ q.2 < 64) (hy : ys.Pairwise lex2) (hmem : ∀ q, q ∈ ys ↔ q ∈ xs) (hg : Gl X "sorted" := by rfl) (hg2 : Gl X "set" := by rfl)
    (he : starEach [e] X.env = [(false, eval e X.env)] := by rfl) (he2 : starEach [.Call (.Name "set" p2) [e] [] pos2] X.env = [(false, eval (.Call (.Name "set" p2) [e] [] pos2) X.env)] := by rfl) : EVf X B ρ (.Call (.Name "sorted" p) [.Call (.Name "set" p2) [e] [] pos2] [] pos) (ys.map enc2) := by
  refine PE.imp (pe_callB (cr_sortedT hc) hg bi.sorted bt_sorted (pa_cons (pe_callTy (cr_setOfT hc (by omega)) hg2 bi.set bt_set (pa_cons ha pa_nil he) (by decide) (by decide) he rfl) pa_nil he2) (by decide) (by decide) he2 rfl) fun σ H Q ⟨G, en, k⟩ => ⟨G, en, fun v H1 G1 g1 p1 => ?_⟩
  obtain ⟨q, vs, rfl, h1, z1, d1⟩ := DqO.list g1.sub p1
  obtain ⟨ks, rfl, e2, e3⟩ := pairs_at d1
  have hkl : ks.length < 64 := by
    have := congrArg List.length e2
    rw [List.length_map, List.length_map] at this
    omega
  have hks : ∀ p ∈ ks, ∃ r ∈ xs, p.2 = ofQ r := fun p hp => by
    have : p.2 ∈ ks.map (·.2) := List.mem_map.mpr ⟨p, hp, rfl⟩
    rw [e2] at this
    obtain ⟨r, hr, e⟩ := List.mem_map.mp this
    exact ⟨r, hr, e.symm⟩
  refine ⟨q, ks, rfl, SqL.of h1, fun p hp => SqT.of (g1.sub _ _ (e3 p hp)), hkl, fun a L hn hL1 hL2 => ⟨a, L, 2, 64, rfl, upd_same, fun p hp => SqT.of ?_, by decide, fun p hp => ?_, fun L' r pm nd few pw hr => ?_⟩⟩
  · have h := g1.sub _ _ (e3 p (hL1 p hp))
    rw [upd_ne (ne_of_none h hn)]; exact h
  · obtain ⟨r, hr, er⟩ := hks p (hL1 p hp)
    obtain ⟨b1, b2⟩ := hb r hr
    rw [er]
    refine ⟨rfl, fun m hm => ?_⟩
    rcases List.mem_cons.mp hm with z | z
    · rw [z]; omega
    · rw [List.mem_singleton.mp z]; omega
  · have hra : r ≠ a := fun z => by rw [z, upd_same] at hr; cases hr
    have hr1 : H1 r = none := by rw [upd_ne hra] at hr; exact hr
    have hL' : ∀ p ∈ L', p ∈ ks := fun p hp => hL1 p (pm.mem_iff.mp hp)
    have es : L'.map (·.2) = ys.map ofQ := by
      refine srtT_uniq ?_ ?_ ?_
      · have nd' : L'.Pairwise fun x y => x.2 ≠ y.2 := List.pairwise_map.mp nd
        refine List.pairwise_map.mpr ((pw.and nd').imp_of_mem fun {x y} hx hy ⟨c1, c2⟩ => ?_)
        obtain ⟨u, hu', eu⟩ := hks x (hL' x hx)
        obtain ⟨v, hv', ev⟩ := hks y (hL' y hy)
        rw [eu, ev] at c1 c2 ⊢
        obtain ⟨u1, u2⟩ := hb u hu'
        obtain ⟨v1, v2⟩ := hb v hv'
        have := pair_lt c1 c2 ⟨by omega, by omega⟩ ⟨by omega, by omega⟩ ⟨by omega, by omega⟩ ⟨by omega, by omega⟩
        show HT.lexLt [(v.1 : Int), (v.2 : Int)] [(u.1 : Int), (u.2 : Int)] = false
        unfold HT.lexLt
        by_cases z : (v.1 : Int) = u.1
        · rw [if_pos z]
          unfold HT.lexLt
          rw [if_neg (by omega)]
          exact decide_eq_false (by omega)
        · rw [if_neg z]
          exact decide_eq_false (by omega)
      · refine List.pairwise_map.mpr (hy.imp fun {u v} h => ?_)
        show HT.lexLt [(v.1 : Int), (v.2 : Int)] [(u.1 : Int), (u.2 : Int)] = false
        unfold lex2 at h
        unfold HT.lexLt
        by_cases z : (v.1 : Int) = u.1
        · rw [if_pos z]
          unfold HT.lexLt
          rw [if_neg (by omega)]
          exact decide_eq_false (by omega)
        · rw [if_neg z]
          exact decide_eq_false (by omega)
      · have nd2 : (ys.map ofQ).Nodup := List.pairwise_map.mpr (hy.imp fun {u v} h e => by
          have := ofQ_inj e
          subst this
          unfold lex2 at h
          omega)
        refine (List.perm_ext_iff_of_nodup nd nd2).mpr fun x => ?_
        constructor
        · intro hx
          obtain ⟨p, hp, rfl⟩ := List.mem_map.mp hx
          obtain ⟨u, hu', eu⟩ := hks p (hL' p hp)
          exact List.mem_map.mpr ⟨u, (hmem u).mpr hu', eu.symm⟩
        · intro hx
          obtain ⟨u, hu', rfl⟩ := List.mem_map.mp hx
          have : ofQ u ∈ ks.map (·.2) := by rw [e2]; exact List.mem_map.mpr ⟨u, (hmem u).mp hu', rfl⟩
          obtain ⟨p, hp, ep⟩ := List.mem_map.mp this
          have := hL2 p hp
          rw [ep] at this
          exact ((pm.map (·.2)).mem_iff).mpr this
    have g2 : Grow G1 H1 G1 (upd (upd H1 a (SetTO X.prog X.w a L)) r (.lst (L'.map fun q => V.ref q.1))) := by
      refine ⟨Same.refl _, fun b o h => ?_, fun b o h => ?_, fun _ _ h => h, fun t => (t.updH fun xs z => nomatch (show HO.ext _ = HO.tup xs from z)).updH fun _ z => nomatch z⟩
      · rw [upd_ne (ne_of_none h hr1), upd_ne (ne_of_none h hn)]; exact h
      · have h := g1.sub _ _ h
        rw [upd_ne (ne_of_none h hr1), upd_ne (ne_of_none h hn)]; exact h
    refine k r _ _ G1 (g1.trans g2) (g1.hh.free hr1) (g1.sub.free hr1) upd_same (by rw [List.length_map]; exact z1000 (by omega)) ?_
    have := pairs_dq (K := X.K) (G := G1) (ks := L') fun p hp => ⟨e3 p (hL' p hp), by
      obtain ⟨u, _, eu⟩ := hks p (hL' p hp)
      rw [eu]
      show 2 ≤ 1000
      decide⟩
    rw [es, List.map_map] at this
    exact this
end
end UP

namespace UP
open PySem PySem.Spec L2
section
variable {X : Cx} {B : Bs} {ρ : DEnv} {a b t : Expr} {pos : Pos}
theorem evx_if {c : Bool} {o : Out} {ex : DEnv → Value → Option PyData → Prop} (h : TV X B ρ t c) (ha : c = true → EVx X B ex ρ a o) (hb : c = false → EVx X B ex ρ b o) : EVx X B ex ρ (.IfExp t a b pos) o := by
  cases c with
  | true => exact PE.imp (pe_ifExp h (ha rfl) (never_e (t := fun _ _ _ => False) fun _ _ _ z => z)) fun σ H Q ⟨G, en, k⟩ => ⟨G, en, fun H1 G1 g1 => by
      refine iteT ⟨G1, en.grow g1, ?_⟩
      cases o with
      | ret d => exact fun v H2 G2 g2 => k v H2 G2 (g1.trans g2)
      | exc c l => exact k⟩
  | false => exact PE.imp (pe_ifExp h (never_e (t := fun _ _ _ => False) fun _ _ _ z => z) (hb rfl)) fun σ H Q ⟨G, en, k⟩ => ⟨G, en, fun H1 G1 g1 => by
      refine iteF ⟨G1, en.grow g1, ?_⟩
      cases o with
      | ret d => exact fun v H2 G2 g2 => k v H2 G2 (g1.trans g2)
      | exc c l => exact k⟩
end
end UP

namespace UP
open PySem PySem.Spec L2
instance (q r : Nat × Nat) : Decidable (lex2 q r) := by unfold lex2; exact inferInstance
def ins2 (q : Nat × Nat) : List (Nat × Nat) → List (Nat × Nat)
  | [] => [q]
  | r :: l => if q = r then r :: l else if lex2 q r then q :: r :: l else r :: ins2 q l
theorem mem_ins2 {q x : Nat × Nat} : ∀ {l : List (Nat × Nat)}, x ∈ ins2 q l ↔ x = q ∨ x ∈ l
  | [] => by unfold ins2; simp
  | r :: l => by
    unfold ins2
    by_cases h : q = r
    · rw [if_pos h, List.mem_cons, h]
      constructor
      · exact fun z => z.elim .inl fun z => .inr (.inr z)
      · exact fun z => z.elim .inl fun z => z
    · rw [if_neg h]
      by_cases h2 : lex2 q r
      · rw [if_pos h2, List.mem_cons]
      · rw [if_neg h2, List.mem_cons, mem_ins2, List.mem_cons]
        constructor
        · rintro (z | z | z)
          · exact .inr (.inl z)
          · exact .inl z
          · exact .inr (.inr z)
        · rintro (z | z | z)
          · exact .inr (.inl z)
          · exact .inl z
          · exact .inr (.inr z)
theorem ins2_srt {q : Nat × Nat} : ∀ {l : List (Nat × Nat)}, l.Pairwise lex2 → (ins2 q l).Pairwise lex2
  | [], _ => List.pairwise_singleton _ _
  | r :: l, h => by
    obtain ⟨h1, h2⟩ := List.pairwise_cons.mp h
    unfold ins2
    by_cases e : q = r
    · rw [if_pos e]; exact h
    · rw [if_neg e]
      by_cases e2 : lex2 q r
      · rw [if_pos e2]
        refine List.pairwise_cons.mpr ⟨fun x hx => ?_, h⟩
        rcases List.mem_cons.mp hx with z | z
        · rw [z]; exact e2
        · have := h1 x z
          unfold lex2 at *
          omega
      · rw [if_neg e2]
        refine List.pairwise_cons.mpr ⟨fun x hx => ?_, ins2_srt h2⟩
        rcases mem_ins2.mp hx with z | z
        · rw [z]
          obtain ⟨a, b⟩ := q
          obtain ⟨c, d⟩ := r
          unfold lex2 at *
          simp at e e2 ⊢
          omega
        · exact h1 x z
def sort2 (l : List (Nat × Nat)) : List (Nat × Nat) := l.foldr ins2 []
theorem mem_sort2 {x : Nat × Nat} : ∀ {l : List (Nat × Nat)}, x ∈ sort2 l ↔ x ∈ l
  | [] => Iff.rfl
  | q :: l => by
    show x ∈ ins2 q (sort2 l) ↔ _
    rw [mem_ins2, mem_sort2, List.mem_cons]
theorem sort2_srt : ∀ l : List (Nat × Nat), (sort2 l).Pairwise lex2
  | [] => List.Pairwise.nil
  | q :: l => ins2_srt (sort2_srt l)
theorem eqv_enc2 (p q : Nat × Nat) : PyData.eqv (enc2 p) (enc2 q) = decide (p = q) := by
  refine Eq.trans (eqv_tuple eqv_encN [p.1, p.2] [q.1, q.2]) (decide_eq_decide.mpr ?_)
  obtain ⟨a1, a2⟩ := p
  obtain ⟨b1, b2⟩ := q
  simp
theorem ok_enc2L (l : List (Nat × Nat)) : okD (.list (l.map enc2)) = true := okD_of 2 (ok_list (ok_map (fun q => ok_tuple fun d hd => by
  rcases List.mem_cons.mp hd with e | e
  · rw [e]; exact ok_encN
  · rw [List.mem_singleton.mp e]; exact ok_encN) _))
end UP

namespace UP
open PySem PySem.Spec L2
section
variable {X : Cx} {B : Bs} {ρ : DEnv} {a b e : Expr} {pos p : Pos} {m n : Nat}
theorem ev_modN (ha : EV X B ρ a (encN m)) (hb : EV X B ρ b (encN n)) (h : 0 < n) : EV X B ρ (.BinOp a .Mod b pos) (encN (m % n)) :=
  EV.to (ev_mod ha hb (by omega)) (by show PyData.int _ = PyData.int _; congr 1)
theorem ev_addN (ha : EV X B ρ a (encN m)) (hb : EV X B ρ b (encN n)) : EV X B ρ (.BinOp a .Add b pos) (encN (m + n)) :=
  EV.to (ev_add ha hb) (by show PyData.int _ = PyData.int _; congr 1)
theorem ev_subN (ha : EV X B ρ a (encN m)) (hb : EV X B ρ b (encN n)) (h : n ≤ m) : EV X B ρ (.BinOp a .Sub b pos) (encN (m - n)) :=
  EV.to (ev_sub ha hb) (by show PyData.int _ = PyData.int _; congr 1; omega)
theorem ev_lenM {α : Type} {f : α → PyData} {xs : List α} (bi : BI X.mg) (ha : EVP X B ρ e (isSq X.K (xs.map f))) (hg : Gl X "len" := by rfl) (he : starEach [e] X.env = [(false, eval e X.env)] := by rfl) : EV X B ρ (.Call (.Name "len" p) [e] [] pos) (encN xs.length) :=
  EV.to (ev_len bi.len ha hg he) (by rw [List.length_map])
theorem ev_drawN {D : Nat → Nat} {i : Nat} (ha : EVo X B ρ a (drawsD D)) (hb : EV X B ρ b (encN i)) (hi : i < 60) (hs : PlainIx b := by exact fun _ _ => rfl) : EV X B ρ (.Subscript a b pos) (encN (D i)) :=
  ev_ixL ha hb (draw_at D hi) hs
theorem tv_eqN (hu : X.A.units + 65 < cLine) (ha : EV X B ρ a (encN m)) (hb : EV X B ρ b (encN n)) : TV X B ρ (.Compare a [.Eq] [b] pos) (decide (m = n)) :=
  tv_eq hu (EVP.o ha) (EVP.o hb) (okD_of 1 ok_encN) (okD_of 1 ok_encN) (eqv_encN m n)
theorem tv_neN (hu : X.A.units + 65 < cLine) (ha : EV X B ρ a (encN m)) (hb : EV X B ρ b (encN n)) : TV X B ρ (.Compare a [.NotEq] [b] pos) (!decide (m = n)) :=
  tv_ne hu (EVP.o ha) (EVP.o hb) (okD_of 1 ok_encN) (okD_of 1 ok_encN) (eqv_encN m n)
theorem ev_eqN (hu : X.A.units + 65 < cLine) (ha : EV X B ρ a (encN m)) (hb : EV X B ρ b (encN n)) : EV X B ρ (.Compare a [.Eq] [b] pos) (.bool (decide (m = n))) :=
  ev_eq hu (EVP.o ha) (EVP.o hb) (okD_of 1 ok_encN) (okD_of 1 ok_encN) (eqv_encN m n)
theorem tv_ltN (ha : EV X B ρ a (encN m)) (hb : EV X B ρ b (encN n)) : TV X B ρ (.Compare a [.Lt] [b] pos) (decide (m < n)) :=
  TV.to (tv_lt ha hb) (decide_eq_decide.mpr (by omega))
theorem tv_gtN (ha : EV X B ρ a (encN m)) (hb : EV X B ρ b (encN n)) : TV X B ρ (.Compare a [.Gt] [b] pos) (decide (n < m)) :=
  TV.to (tv_gt ha hb) (decide_eq_decide.mpr (by omega))
theorem ev_ltN (ha : EV X B ρ a (encN m)) (hb : EV X B ρ b (encN n)) : EV X B ρ (.Compare a [.Lt] [b] pos) (.bool (decide (m < n))) :=
  EV.to (ev_lt ha hb) (congrArg PyData.bool (decide_eq_decide.mpr (by omega)))
theorem ev_gtN (ha : EV X B ρ a (encN m)) (hb : EV X B ρ b (encN n)) : EV X B ρ (.Compare a [.Gt] [b] pos) (.bool (decide (n < m))) :=
  EV.to (ev_gt ha hb) (congrArg PyData.bool (decide_eq_decide.mpr (by omega)))
/-- weights[p], order[p] -/
theorem ev_ixR {v : List Nat} {i : Nat} (ha : EV X B ρ a (encR v)) (hb : EV X B ρ b (encN i)) (hi : i < v.length) (hs : PlainIx b := by exact fun _ _ => rfl) : EV X B ρ (.Subscript a b pos) (encN (v.getD i 0)) :=
  ev_ixT ha hb (ix_map (f := encN) (get_some hi)) hs
theorem ev_ixO {or : List (List Nat)} {i : Nat} (ho : IsOrd or) (ha : EV X B ρ a (encO or)) (hb : EV X B ρ b (encN i)) (hi : i < or.length) (hs : PlainIx b := by exact fun _ _ => rfl) : EV X B ρ (.Subscript a b pos) (encR (above or i)) :=
  ev_ixT ha hb (ix_map (f := encR) (ho.row hi)) hs
end
theorem sd_at {X : Cx} {B : Bs} {ρ ρ' : DEnv} {sts : List Stmt} {E : DE} (h : ρ = ρ') (k : SDs X B ρ' sts E) : SDs X B ρ sts E := h ▸ k
theorem eqv_bool (c d : Bool) : PyData.eqv (.bool c) (.bool d) = (c == d) := by cases c <;> cases d <;> rfl
theorem eqv_boolS (c : Bool) : PyData.eqv (.bool c) (.bool c) = true := by cases c <;> rfl
theorem okB {c : Bool} : okD (.bool c) = true := okD_of 1 ok_bool
theorem okN {n : Nat} : okD (encN n) = true := okD_of 1 ok_encN
theorem okR {r : List Nat} : okD (encR r) = true := okD_of 1 ok_encR
theorem okLR {l : List (List Nat)} : okD (.list (l.map encR)) = true := okD_of 2 (ok_list (ok_map (fun _ => ok_encR) _))
theorem okLn : okD (.list []) = true := okD_of 2 (ok_list fun _ h => by cases h)
theorem cutD_len (ds : List PyData) (i j : Option Int) : (cutD ds i j).length ≤ ds.length := by
  unfold cutD
  exact Nat.le_trans (List.length_take_le' _ _) (by rw [List.length_drop]; omega)
end UP
namespace UP
open PySem PySem.Spec L2
/-! ### a plan has no more rows than units -/
theorem fsum_amt {n : Nat} : ∀ {rows : List Row}, (∀ r ∈ rows, r.1 < n) → fsum (fun p => rsum (fun r => decide (r.1 = p)) rows) n = (rows.map fun r => r.2.2).sum
  | [], _ => fsum_zero n
  | r :: rows, h => by
    have ih := fsum_amt (n := n) (rows := rows) fun q hq => h q (List.mem_cons_of_mem _ hq)
    rw [List.map_cons, List.sum_cons, ← ih, ← fsum_single (n := n) r.2.2 (h r List.mem_cons_self), ← fsum_add]
    refine fsum_congr fun i _ => ?_
    unfold rsum
    rw [List.filter_cons]
    by_cases e : r.1 = i
    · rw [if_pos (by simpa using e), List.map_cons, List.sum_cons, if_pos e.symm]
    · rw [if_neg (by simpa using e), if_neg (Ne.symm e)]; omega
theorem len_le_amt : ∀ {rows : List Row}, (∀ r ∈ rows, 1 ≤ r.2.2) → rows.length ≤ (rows.map fun r => r.2.2).sum
  | [], _ => Nat.le_refl _
  | r :: rows, h => by
    have := len_le_amt fun q hq => h q (List.mem_cons_of_mem r hq)
    have h1 := h r List.mem_cons_self
    rw [List.length_cons, List.map_cons, List.sum_cons]; omega
theorem plan_amt {o : List (List Nat)} {a b : List Nat} {rows : List Row} (I : IsPl o a b rows) (ha : a.length = o.length) : (rows.map fun r => r.2.2).sum = a.sum := by
  rw [← fsum_amt (n := o.length) fun r hr => (I.ok r hr).1, sum_fsum, ha]
  exact fsum_congr fun p hp => I.frm p hp
theorem plan_len {o : List (List Nat)} {a b : List Nat} {rows : List Row} (I : IsPl o a b rows) (ha : a.length = o.length) : rows.length ≤ a.sum := by
  rw [← plan_amt I ha]
  exact len_le_amt fun r hr => (I.ok r hr).2.2.1
end UP
namespace UP
open PySem PySem.Spec L2
theorem tv_weak {X : Cx} {B : Bs} {ρ ρ' : DEnv} {e : Expr} {c : Bool} (le : Le ρ ρ') (h : TV X B ρ' e c) : TV X B ρ e c := PT.imp h fun _ _ _ ⟨G, en, k⟩ => ⟨G, en.weak le, k⟩
theorem ev_weak {X : Cx} {B : Bs} {ρ ρ' : DEnv} {e : Expr} {P : Pd} (le : Le ρ ρ') (h : EVP X B ρ' e P) : EVP X B ρ e P := PE.imp h fun _ _ _ ⟨G, en, k⟩ => ⟨G, en.weak le, k⟩
end UP
namespace UP
open PySem PySem.Spec L2
theorem any_encR (l : List (List Nat)) (x : List Nat) : ((l.map encR).any fun z => PyData.eqv z (encR x)) = decide (x ∈ l) := (any_eqv eqv_encR l x).trans (decide_eq_decide.mpr Iff.rfl)
end UP
namespace UP
open PySem PySem.Spec L2
theorem cut_to (ds : List PyData) (n : Nat) : cutD ds none (some (n : Int)) = ds.take n := by
  unfold cutD
  rw [HT.sIx_none, HT.sIx_nat, List.drop_zero, Nat.sub_zero]
  by_cases h : n ≤ ds.length
  · rw [Nat.min_eq_left h]
  · rw [Nat.min_eq_right (by omega), List.take_length, List.take_of_length_le (by omega)]
theorem cut_from (ds : List PyData) (n : Nat) : cutD ds (some (n : Int)) none = ds.drop n := by
  unfold cutD
  rw [HT.sIx_none, HT.sIx_nat]
  by_cases h : n ≤ ds.length
  · rw [Nat.min_eq_left h, List.take_of_length_le (by rw [List.length_drop]; omega)]
  · rw [Nat.min_eq_right (by omega), List.drop_length, List.take_nil, List.drop_eq_nil_of_le (by omega)]
theorem cut_back (ds : List PyData) (k : Nat) (hk : 0 < k) : cutD ds (some (-(k : Int))) none = ds.drop (ds.length - k) := by
  unfold cutD
  have e : HT.sIx ds.length 0 (some (-(k : Int))) = ds.length - k := by
    show (if -(k : Int) < 0 then (-(k : Int) + (ds.length : Int)).toNat else _) = _
    rw [if_pos (by omega)]
    omega
  rw [HT.sIx_none, e, List.take_of_length_le (by rw [List.length_drop]; omega)]
theorem eqv_strS (x : Str) : PyData.eqv (.str x) (.str x) = true := by simp [PyData.eqv]
end UP

/-! MG: dicts of one's own whose keys are tuples of ints. -/
namespace UP
open PySem PySem.Spec PyProof.Rows L2
section
variable {prog : Program} {w : World} {A : Around} {E : Value → Shared → Prop} {s : Shared} {T : String} {r d : Addr} {n : Nat} {Pv : Nat → Value → Prop} {OK : Heap → Prop}
theorem collectK {Q : List Value → Shared → Prop} (S : PySem.W.KdlSrc prog w T r d n Pv OK) (hh : A.handled = none) (hok : OK s.heap) (hn : n ≤ sizeLine)
    (h : ∀ (h' : Heap) (tk : Nat) (acc : Array Value), (∀ b o, s.heap.get? b = some o → h'.get? b = some o) → s.heap.objs.size < h'.objs.size → ItemsOf Pv acc n → Q acc.toList { s with heap := h', toks := tk }) : wpAny (model prog w) A (collect (.ref r)) Q E s := by
  unfold collect
  obtain ⟨l1, l2⟩ := S.there _ hok
  let S0 := s.heap.objs.size
  let Rr : Result → Shared → Prop := fun rr s' => rr = .ok (.ret (.ref S0)) ∧ ∃ (h' : Heap) (tk : Nat) (acc : Array Value) (c' : Nat), s' = { s with heap := h', toks := tk } ∧ (∀ b o, s.heap.get? b = some o → h'.get? b = some o) ∧
    h'.get? S0 = some { cls := .type "list", dict := none, data := .seq acc c', slots := #[] } ∧ ItemsOf Pv acc n
  have fin : ∀ s', Rr (.ok (.ret (.ref S0))) s' → wpAny (model prog w) A (do let o ← load S0; match o.data with | .seq xs _ => pure xs.toList | _ => unsupported "internal:collect") Q E s' := by
    rintro _ ⟨_, h', tk, acc, c', rfl, kp, k2, it⟩
    exact wpAny_bind (wpAny_load k2 (wpAny_pure (h h' tk acc kp (Heap.lt_size k2) it)))
  refine wpAny_bind (wpAny_runValue (codeAny_builtin entry_proto_collect' ?_))
  rw [Around.under_plainId PySem.F.plain_proto_collect _]
  refine wpAny_bind (m := newList []) (wpAny_newList ?_)
  refine wpAny_pure ⟨Code.quiet_builtin _ (by decide +kernel), codeAny_builtin entry_list_iadd' ?_⟩
  rw [Around.under_plainId PySem.F.plain_list_iadd _]
  refine wpAny_mono (PySem.W.kdl_extend (A := A) (R := Rr) (s := { s with heap := s.heap.push (seqObj "list" #[] 0) }) S hh (S.keep _ _ hok fun b _ o e => Heap.get?_push_of_some _ e) S0 (Ne.symm (Nat.ne_of_lt l1)) (Ne.symm (Nat.ne_of_lt l2)) (.ref S0) 0 (Heap.get?_push_size _ rfl)
    (fun h' tk acc c k1 k2 it => ⟨rfl, h', tk, acc, c, rfl, fun b o e => k1 b o (Nat.ne_of_lt (Heap.lt_size e)) (Heap.get?_push_of_some _ e), k2, it⟩) hn) (fun f s' hf => ?_) fun e s' hf => absurd hf.1 (by simp)
  cases f with
  | done f =>
    have e := hf.1
    cases e
    exact fin s' hf
  | again c' =>
    refine ⟨hf.1, codeAny_mono hf.2 fun rr s2 hr => ?_⟩
    have e := hr.1
    subst e
    exact fin s2 hr
theorem sortedK {vs : List Value} {ltv : Value → Value → Bool} {Q : Value → Shared → Prop} (S : PySem.W.KdlSrc prog w T r d n Pv OK) (hh : A.handled = none) (hok : OK s.heap) (hn : n ≤ sizeLine) (O : SrtO.Swo ltv) (hvs : ∀ acc : Array Value, ItemsOf Pv acc n → acc.toList = vs)
    (hS : 2 ≤ vs.length → ∀ (s1 : Shared) (a : Addr), (∀ b o, s.heap.get? b = some o → s1.heap.get? b = some o) → s1.heap.get? a = some (seqObj "list" vs.toArray 0) → SrtO.SortableO prog w A.in1.in1 s1 a vs ltv)
    (h : ∀ (h' : Heap) (tk : Nat) (p : Addr) (out : List Value), SrtO.Srtd ltv out → out.Perm vs → (∀ b o, s.heap.get? b = some o → h'.get? b = some o) → s.heap.objs.size ≤ p → (∃ n, h'.get? p = some (seqObj "list" out.toArray n)) → Q (.ref p) { s with heap := h', toks := tk }) :
    wpAny (model prog w) A (call (.builtin "sorted") [.ref r]) Q E s := by
  refine Calls.call_function_entry kind_sorted plain_sorted entry_sorted (args_sorted1 _) ?_
  unfold Builtin.«sorted»
  refine wpAny_bind (m := checkCount "sorted" 1 1 _) (wpAny_pure ?_)
  refine wpAny_bind (collectK S hh hok hn fun h1 tk acc kp hsz it => ?_)
  have ev := hvs acc it
  have hz : vs.length ≤ sizeLine := by rw [← ev, Array.length_toList, it.1]; exact hn
  rw [ev]
  refine wpAny_bind (wpAny_newList ?_ hz)
  have hoL : (h1.push (seqObj "list" vs.toArray 0)).get? h1.objs.size = some (seqObj "list" vs.toArray 0) := Heap.get?_push_size _ rfl
  have kp2 : ∀ b o, s.heap.get? b = some o → (h1.push (seqObj "list" vs.toArray 0)).get? b = some o := fun b o e => Heap.get?_push_of_some _ (kp b o e)
  refine wpAny_bind (wpAny_holding (wpAny_call_entry slot_list_sort ⟨_, hoL, rfl⟩ entry_list_sort (SrtO.list_sort_ord O hoL hz (fun h2 => hS h2 _ _ kp2 hoL) fun out a1 a2 => ⟨_, rfl, wpAny_pure ⟨_, rfl, ?_⟩⟩) (args_list_sort _)))
  refine h _ tk h1.objs.size out a1 a2.perm (fun b o e => ?_) (Nat.le_of_lt hsz) (sortedHeap_at hoL)
  have l := Heap.lt_size (kp b o e)
  exact (sortedHeap_old (Nat.ne_of_lt l) (Nat.lt_of_lt_of_le l (by rw [size_push']; exact Nat.le_succ _))).trans (kp2 b o e)
end
/-! ### keys -/
abbrev ik (k : List Int) : List Key := k.map Sum.inl
theorem ik_kV (k : List Int) : (ik k).map kV = k.map V.int := by rw [List.map_map]; rfl
theorem ik_inj {a b : List Int} (h : ik a = ik b) : a = b := by
  have := congrArg (List.map fun x : Key => match x with | .inl i => i | .inr _ => 0) h
  rw [List.map_map, List.map_map] at this
  have f : ((fun x : Key => match x with | .inl i => i | .inr _ => 0) ∘ Sum.inl) = (id : Int → Int) := rfl
  rw [f, List.map_id, List.map_id] at this
  exact this
def intOf : V → Int
  | .int i => i
  | _ => 0
theorem intOf_map (k : List Int) : (k.map V.int).map intOf = k := by
  rw [List.map_map]
  exact List.map_id _
def keyOf (H : Hp) : Value → List Int
  | .ref b => match H b with
    | some (.tup ws) => ws.map intOf
    | _ => []
  | _ => []
theorem keyOf_at {H : Hp} {b : Addr} {k : List Int} (h : H b = some (.tup (k.map V.int))) : keyOf H (.ref b) = k := by
  show (match H b with | some (.tup ws) => ws.map intOf | _ => []) = k
  rw [h]
  exact intOf_map k
theorem keys_tup {H : Hp} : ∀ {kvs : List (List Key × V)} {xs : List (List Key × Addr × Value)} {ks : List (List Int)}, Paired (fun (p : List Key × V) (q : List Key × Addr × Value) => p.1 = q.1 ∧ H q.2.1 = some (.tup (p.1.map kV)) ∧ RelV p.2 q.2.2) kvs xs → kvs.map (·.1) = ks.map ik →
    (xs.map fun x => Value.ref x.2.1).map (keyOf H) = ks ∧ ∀ v ∈ xs.map fun x => Value.ref x.2.1, ∃ b, v = .ref b ∧ H b = some (.tup ((keyOf H v).map V.int))
  | _, _, ks, .nil, h => by
    cases ks with
    | nil => exact ⟨rfl, fun _ z => by cases z⟩
    | cons k ks => cases h
  | _, _, ks, .cons (a := p) (b := q) hd tl, h => by
    cases ks with
    | nil => cases h
    | cons k ks =>
      rw [List.map_cons, List.map_cons] at h
      injection h with h1 h2
      obtain ⟨e1, e2⟩ := keys_tup tl h2
      have hb : H q.2.1 = some (.tup (k.map V.int)) := by rw [hd.2.1, h1, ik_kV]
      have hk := keyOf_at hb
      refine ⟨by rw [List.map_cons, List.map_cons, hk, e1], fun v hv => ?_⟩
      rcases List.mem_cons.mp hv with z | z
      · subst z
        exact ⟨_, rfl, by rw [hk]; exact hb⟩
      · exact e2 v z
section
variable {X : Cx}
theorem cr_sortedD (hc : X.calm = true) (hu : X.A.units + 2 < cLine) : CallR X (.builtin "sorted") (fun vs H Q => ∃ (a : Addr) (kvs : List (List Key × V)) (ks : List (List Int)), vs = [V.ref a] ∧ H a = some (.dT kvs) ∧ kvs.map (·.1) = ks.map ik ∧
    ∀ (L : List (Addr × List Int)) (p : Addr), (∀ q ∈ L, H q.1 = some (.tup (q.2.map V.int))) → L.map (·.2) = sortT ks → H p = none → Q (.ref p) (upd H p (.lst (L.map fun q => V.ref q.1)))) := by
  intro pins s σ H vs us Q I r h
  obtain ⟨a, kvs, ks, rfl, hd, hks, q⟩ := h
  rw [Vals.ref1 r]
  obtain ⟨z, hs, xs, pr, o, es, ep, ho, hx, hdt, he, hn⟩ := (show ObjOk X.prog X.w H s.heap a (.dT kvs) from I.hok a _ hd)
  have l1 : es.size = xs.length := by rw [← Array.length_toList, he, List.length_map]
  have l2 : kvs.length = xs.length := Paired.length pr
  obtain ⟨e1, e2⟩ := keys_tup pr hks
  have raw : ∀ v ∈ xs.map fun x => Value.ref x.2.1, TS.TupInts s.heap v (keyOf H v) := fun v hv => by
    obtain ⟨b, rfl, hb⟩ := e2 v hv
    exact tupI_raw I (SqT.of hb)
  refine sortedK (vs := xs.map fun x => Value.ref x.2.1) (ltv := fun v u => HT.lexLt (keyOf H v) (keyOf H u)) (kdl_raw hs hx hdt) (I.ok.hd hc) ho (by omega) (swo_lexT (keyOf H)) (fun acc it => ?_) (fun h2 s1 a' kp ha => ?_) fun h' tk p out o1 o2 kp hp hn => ?_
  · apply List.ext_getElem?
    intro j
    rw [List.getElem?_map]
    by_cases hj : j < acc.size
    · obtain ⟨en, hen, hv⟩ := it.2 j acc[j] (Array.getElem?_eq_getElem hj)
      rw [Array.getElem?_toList, Array.getElem?_eq_getElem hj, hv]
      have hen' : es.toList[j]? = some en := by rw [Array.getElem?_toList]; exact hen
      rw [he, List.getElem?_map] at hen'
      cases hx : xs[j]? with
      | none => rw [hx] at hen'; cases hen'
      | some x =>
        rw [hx] at hen'
        have e := Option.some.inj hen'
        rw [← e]
        rfl
    · have hs := it.1
      rw [List.getElem?_eq_none (by rw [Array.length_toList]; omega), List.getElem?_eq_none (by omega)]
      rfl
  · refine sortableT (s := s1) (k := keyOf H) (by show X.A.units + 1 + 1 < cLine; omega) h2 (fun v hv => (raw v hv).keeps fun b o e _ => kp b o e) fun o e => ?_
    rw [ha] at e
    cases e
    intro c
    exact absurd (Value.type.inj c) (by decide)
  · have h3 : ∀ u ∈ out, ∃ a, u = Value.ref a := fun u hu => by
      obtain ⟨b, hb, _⟩ := e2 u (o2.mem_iff.mp hu)
      exact ⟨b, hb⟩
    obtain ⟨n, hn⟩ := hn
    let L : List (Addr × List Int) := out.map fun v => ((match v with | .ref b => b | _ => 0), keyOf H v)
    have eL : (L.map fun q => V.ref q.1) = out.map backV := by
      rw [List.map_map]
      refine List.map_congr_left fun v hv => ?_
      obtain ⟨b, rfl⟩ := h3 v hv
      rfl
    refine ⟨.ref p, upd H p (.lst (out.map backV)), I.laid (t' := tk) kp hp ⟨by rw [List.length_map, o2.length_eq, List.length_map]; omega, out, n, vals_back h3, hn⟩, rfl, ?_⟩
    rw [← eL]
    refine q L p (fun q hq => ?_) ?_ (I.hok.fresh hp)
    · obtain ⟨v, hv, rfl⟩ := List.mem_map.mp hq
      obtain ⟨b, rfl, hb⟩ := e2 v (o2.mem_iff.mp hv)
      exact hb
    · have e3 : L.map (·.2) = out.map (keyOf H) := by rw [List.map_map]; rfl
      rw [e3]
      refine srtT_uniq (List.pairwise_map.mpr o1) (sortT_sorted ks) ?_
      exact (o2.map (keyOf H)).trans (by rw [e1]; exact (sortT_perm ks).symm)
end
/-! ### the same over data -/
def valD (m : List (List Int × PyData)) (k : List Int) : Option PyData := (m.find? fun e => decide (e.1 = k)).map (·.2)
def putD (m : List (List Int × PyData)) (k : List Int) (d : PyData) : List (List Int × PyData) :=
  if (m.any fun e => decide (e.1 = k)) = true then m.map (fun e => if e.1 = k then (e.1, d) else e) else m ++ [(k, d)]
inductive DK (K : PySem.W.Frag) (G : Hp) : List (List Key × V) → List (List Int × PyData) → Prop
  | nil : DK K G [] []
  | cons {k : List Int} {v : V} {d : PyData} {r : List (List Key × V)} {m : List (List Int × PyData)} : Dq K G v d → DK K G r m → DK K G ((ik k, v) :: r) ((k, d) :: m)
section
variable {K : PySem.W.Frag} {G G' : Hp}
theorem DK.mono (g : Same G G') : ∀ {kvs : List (List Key × V)} {m : List (List Int × PyData)}, DK K G kvs m → DK K G' kvs m
  | _, _, .nil => .nil
  | _, _, .cons h t => .cons (Dq.mono g _ h) (DK.mono g t)
theorem DK.length : ∀ {kvs : List (List Key × V)} {m : List (List Int × PyData)}, DK K G kvs m → kvs.length = m.length
  | _, _, .nil => rfl
  | _, _, .cons _ t => by rw [List.length_cons, List.length_cons, DK.length t]
theorem DK.keys : ∀ {kvs : List (List Key × V)} {m : List (List Int × PyData)}, DK K G kvs m → kvs.map (·.1) = (m.map (·.1)).map ik
  | _, _, .nil => rfl
  | _, _, .cons _ t => by rw [List.map_cons, List.map_cons, List.map_cons, DK.keys t]
theorem DK.val {k : List Int} : ∀ {kvs : List (List Key × V)} {m : List (List Int × PyData)}, DK K G kvs m → (∀ d, valD m k = some d → ∃ v, valV kvs (ik k) = some v ∧ Dq K G v d) ∧ (valD m k = none → valV kvs (ik k) = none)
  | _, _, .nil => ⟨fun d h => (nomatch (show (none : Option PyData) = some d from h)), fun _ => rfl⟩
  | _, _, .cons (k := k') (v := v) (d := d) (r := r) (m := m) hd t => by
    have ih := DK.val (k := k) t
    by_cases e : k' = k
    · subst e
      have e1 : valD ((k', d) :: m) k' = some d := by unfold valD; rw [List.find?_cons_of_pos (by simp)]; rfl
      rw [e1, valV_pos (p := (ik k', v)) rfl]
      refine ⟨fun d' h => ?_, fun h => by cases h⟩
      cases h
      exact ⟨v, rfl, hd⟩
    · have e1 : valD ((k', d) :: m) k = valD m k := by unfold valD; rw [List.find?_cons_of_neg (by simpa using e)]
      rw [e1, valV_neg (p := (ik k', v)) fun z => e (ik_inj z)]
      exact ih
theorem DK.any {k : List Int} : ∀ {kvs : List (List Key × V)} {m : List (List Int × PyData)}, DK K G kvs m → (kvs.any fun e => decide (e.1 = ik k)) = (m.any fun e => decide (e.1 = k))
  | _, _, .nil => rfl
  | _, _, .cons (k := k') hd t => by
    rw [List.any_cons, List.any_cons, DK.any t]
    congr 1
    exact decide_eq_decide.mpr ⟨fun z => ik_inj z, fun z => congrArg ik z⟩
theorem DK.append : ∀ {kvs rs : List (List Key × V)} {m n : List (List Int × PyData)}, DK K G kvs m → DK K G rs n → DK K G (kvs ++ rs) (m ++ n)
  | _, _, _, _, .nil, s => s
  | _, _, _, _, .cons h t, s => .cons h (DK.append t s)
theorem DK.repl {k : List Int} {v : V} {d : PyData} (h : Dq K G v d) : ∀ {kvs : List (List Key × V)} {m : List (List Int × PyData)}, DK K G kvs m → DK K G (kvs.map fun kv => if kv.1 = ik k then (kv.1, v) else kv) (m.map fun e => if e.1 = k then (e.1, d) else e)
  | _, _, .nil => .nil
  | _, _, .cons (k := k') (v := v') (d := d') hd t => by
    rw [List.map_cons, List.map_cons]
    by_cases e : k' = k
    · rw [if_pos (show (ik k', v').1 = ik k by rw [e]), if_pos (show (k', d').1 = k from e)]
      exact .cons h (DK.repl h t)
    · rw [if_neg (show ¬ (ik k', v').1 = ik k from fun z => e (ik_inj z)), if_neg (show ¬ (k', d').1 = k from e)]
      exact .cons hd (DK.repl h t)
theorem DK.put {k : List Int} {v : V} {d : PyData} {kvs : List (List Key × V)} {m : List (List Int × PyData)} (t : DK K G kvs m) (h : Dq K G v d) : DK K G (putK kvs (ik k) v) (putD m k d) := by
  unfold putK putD
  rw [t.any]
  split
  · exact t.repl h
  · exact t.append (.cons h .nil)
end
/-- a dict of one's own -/
def dctR (K : PySem.W.Frag) (m : List (List Int × PyData)) : Res where
  holds := fun v fp G H => ∃ a kvs, v = .ref a ∧ fp = [a] ∧ H a = some (.dT kvs) ∧ DK K G kvs m
  stab := fun v fp G H G' H' ⟨a, kvs, e1, e2, e3, e4⟩ g h => ⟨a, kvs, e1, e2, by rw [h a (by rw [e2]; exact List.mem_singleton.mpr rfl)]; exact e3, e4.mono g⟩
abbrev Slot.dct (K : PySem.W.Frag) (m : List (List Int × PyData)) : Slot := .res (dctR K m)
def isDct (K : PySem.W.Frag) (m : List (List Int × PyData)) : Pd := fun G H v => ∃ a kvs, v = .ref a ∧ H a = some (.dT kvs) ∧ DK K G kvs m
theorem stb_dct {K : PySem.W.Frag} {m : List (List Int × PyData)} : Stb (isDct K m) := fun G H G' H' v g ⟨a, kvs, e1, e2, e3⟩ => ⟨a, kvs, e1, g.hh _ _ e2, e3.mono g.gg⟩
section
variable {X : Cx} {B : Bs} {ρ : DEnv} {e : Expr} {pos p : Pos} {i : Nat} {x : Str} {m : List (List Int × PyData)} {E : DE}
theorem ev_dct (i : Nat) {x : Str} (hρ : ρ[i]? = some (.dct X.K m) := by rfl) (hN : X.N[i]? = some x := by rfl) (hv : Vis X.env.scope x := by first | exact Or.inl rfl | exact Or.inr (Or.inl rfl) | exact Or.inr (Or.inr rfl))
    (hd : (x == ("__debug__" : Str)) = false := by decide) (hcd : (x == ("__classdict__" : Str)) = false := by decide) : EVP X B ρ (.Name x pos) (isDct X.K m) := by
  refine PE.imp (pe_var (i := i) hN hv hd hcd) fun σ H Q ⟨G, en, k⟩ => ?_
  obtain ⟨v, nf, e, ⟨a, kvs, e1, e2, e3, e4⟩, _⟩ := en.getRes hρ
  exact ⟨v, e, k _ H G (Grow.refl en.sub) ⟨a, kvs, e1, e3, e4⟩⟩
/-- x = {} -/
theorem sd_dctNew {pos' dp : Pos} (hN : X.N.Nodup) (h : E.nx (ρ.set i (.dct X.K []))) (hi : X.N[i]? = some x := by rfl) (hx : Loc X.env.scope x := by first | exact Or.inl rfl | exact Or.inr rfl) (hs : swapsWith (.Dict [] [] dp) (some (.Name x pos')) pos.line X.env = pure false := by rfl)
    (hf : X.fn x = true ∨ X.env.scope.names.lookup x = some .local := by first | exact .inl rfl | exact .inr rfl | assumption) : SD X B ρ (.Assign [.Name x pos'] (.Dict [] [] dp) pos) E :=
  PS.imp (ps_set hN hi hx pe_dnewT hs hf) fun D σ H ⟨G, en, h1, _⟩ q n => h1 _ _ G _ (Same.refl _) (en.setRes (Grow.own en.sub _ n) (R := dctR X.K []) (nf := [q]) ⟨q, [], rfl, rfl, upd_same, .nil⟩ fun z hz => by
    rw [List.mem_singleton.mp hz]
    exact ⟨n, en.sub.free n, by rw [upd_same]; exact fun z => nomatch z⟩) h
theorem En.putDct {K : PySem.W.Frag} {G H : Hp} {σ : L2.St} (en : En K B G H σ ρ) {m' : List (List Int × PyData)} (h : ρ[i]? = some (.dct K m)) {a : Addr} {kvs' : List (List Key × V)} (ha : σ[i]? = some (some (.ref a))) (hd : DK K G kvs' m') : En K B G (upd H a (.dT kvs')) σ (ρ.set i (.dct K m')) := by
  obtain ⟨fp, F⟩ := en.fp
  have hl : i < ρ.length := (List.getElem?_eq_some_iff.mp h).1
  obtain ⟨v, e, a', kvs, e1, e2, e3, e4⟩ := F.at_ i _ _ h ha
  cases e; cases e1
  obtain ⟨g1, g2, g3⟩ := F.own i a (by rw [e2]; exact List.mem_singleton.mpr rfl)
  have gr : Grow B.1 B.2 G (upd H a (.dT kvs')) := by
    refine ⟨en.gr.gg, fun b o q => ?_, fun b o q => ?_, en.gr.sep, fun t => (en.gr.tc t).updH fun _ z => nomatch z⟩
    · rw [upd_ne (fun z => by rw [z, g2] at q; cases q)]; exact en.gr.hh b o q
    · rw [upd_ne (fun z => by rw [z, g1] at q; cases q)]; exact en.gr.sub b o q
  refine en.rewrite F e2 hl ha gr (R := dctR K m) (R' := dctR K m') (nf' := [a]) ⟨a, kvs', rfl, rfl, upd_same, hd⟩ (fun b hb _ => upd_ne fun z => hb (by rw [z]; exact List.mem_singleton.mpr rfl)) (fun b hb => .inl hb) fun b hb => ?_
  rw [List.mem_singleton.mp hb, upd_same]
  exact fun z => nomatch z
/-- the key's object -/
theorem Dq.key {K : PySem.W.Frag} {G H : Hp} {v : V} {k : List Int} (s : Same G H) (h : Dq K G v (encI k)) : ∃ b, v = .ref b ∧ H b = some (.tup ((ik k).map kV)) := by
  cases h with
  | tup a1 a2 a3 => exact ⟨_, rfl, by rw [ik_kV, ← DqAll.ints a3]; exact s _ _ a1⟩
/-- x[k] = d -/
theorem sd_dctPut {ix : Expr} {k : List Int} {d : PyData} {tpos : Pos} (hu : X.A.units + 65 < cLine) (hρ : ρ[i]? = some (.dct X.K m)) (he : EV X B ρ e d) (hk : EV X B ρ ix (encI k)) (hz : m.length < sizeLine) (h : E.nx (ρ.set i (.dct X.K (putD m k d)))) (hN : X.N[i]? = some x := by rfl)
    (hv : Vis X.env.scope x := by first | exact Or.inl rfl | exact Or.inr (Or.inl rfl) | exact Or.inr (Or.inr rfl)) (hd : (x == ("__debug__" : Str)) = false := by decide) (hcd : (x == ("__classdict__" : Str)) = false := by decide)
    (hs : swapsWith e (some (.Subscript (.Name x p) ix tpos)) pos.line X.env = pure false := by rfl) : SD X B ρ (.Assign [.Subscript (.Name x p) ix tpos] e pos) E := by
  refine PS.imp (ps_dput (by omega) (pe_var (i := i) hN hv hd hcd) hk he hs) fun D σ H ⟨G, en, h1, _⟩ => ⟨G, en, fun v H1 G1 g1 p1 => ?_⟩
  have en1 := en.grow g1
  obtain ⟨u, nf, e1, ⟨a, kvs, rfl, e2, e3, e4⟩, _⟩ := en1.getRes hρ
  refine ⟨_, e1, G1, en1, fun y H2 G2 g2 p2 => ?_⟩
  obtain ⟨b, rfl, hb⟩ := Dq.key g2.sub p2
  have e4' := e4.mono g2.gg
  exact ⟨a, _, rfl, DPut.t (g2.hh _ _ e3) hb (by rw [e4.length]; exact hz), h1 _ σ G2 _ (g1.gg.trans g2.gg) ((en1.grow g2).putDct hρ e1 (e4'.put (Dq.mono g2.gg _ p1))) h⟩
/-- x[k] -/
theorem ev_dctGet {o ix : Expr} {k : List Int} {d : PyData} (hu : X.A.units + 65 < cLine) (ho : EVP X B ρ o (isDct X.K m)) (hk : EV X B ρ ix (encI k)) (hd : valD m k = some d) (hs : NoSl ix := by exact fun _ _ => rfl) : EV X B ρ (.Subscript o ix pos) d := by
  refine PE.imp (pe_dget (by omega) ho hk hs) fun σ H Q ⟨G, en, q⟩ => ⟨G, en, fun v H1 G1 g1 ⟨a, kvs, e1, e2, e3⟩ => ?_⟩
  refine ⟨G1, en.grow g1, fun y H2 G2 g2 p2 => ?_⟩
  obtain ⟨b, rfl, hb⟩ := Dq.key g2.sub p2
  obtain ⟨u, hu1, hu2⟩ := ((e3.mono g2.gg).val (k := k)).1 d hd
  exact ⟨a, u, e1, hu1 ▸ DGet.t (g2.hh _ _ e2) hb, q u H2 G2 (g1.trans g2) hu2⟩
/-- x.get(k, d) -/
theorem ev_dctGetD {o ix f : Expr} {k : List Int} {d0 : PyData} {apos : Pos} (hu : X.A.units + 65 < cLine) (ho : EVP X B ρ o (isDct X.K m)) (hk : EV X B ρ ix (encI k)) (hf : EV X B ρ f d0) (hm : M2 X o "get" apos ix f pos) : EV X B ρ (.Call (.Attribute o "get" apos) [ix, f] [] pos) ((valD m k).getD d0) := by
  refine PE.imp (pe_dget2 (by omega) ho hk hf hm) fun σ H Q ⟨G, en, q⟩ => ⟨G, en, fun v H1 G1 g1 ⟨a, kvs, e1, e2, e3⟩ => ?_⟩
  refine ⟨a, e1, .inr ⟨kvs, .inl e2⟩, G1, en.grow g1, fun y H2 G2 g2 p2 => ?_⟩
  obtain ⟨b, rfl, hb⟩ := Dq.key g2.sub p2
  refine ⟨G2, (en.grow g1).grow g2, fun z H3 G3 g3 p3 => ?_⟩
  have e3' := e3.mono (g2.gg.trans g3.gg)
  refine ⟨_, DGet.t (g3.hh _ _ (g2.hh _ _ e2)) (g3.hh _ _ hb), q _ H3 G3 (g1.trans (g2.trans g3)) ?_⟩
  obtain ⟨c1, c2⟩ := e3'.val (k := k)
  cases hd : valD m k with
  | none => rw [c2 hd]; exact p3
  | some d =>
    obtain ⟨u, hu1, hu2⟩ := c1 d hd
    rw [hu1]; exact hu2
/-- sorted(x) -/
theorem ev_sortedD (bi : BI X.mg) (hc : X.calm = true) (hu : X.A.units + 65 < cLine) (ha : EVP X B ρ e (isDct X.K m)) (hkz : ∀ k ∈ m, k.1.length ≤ 1000) (hmz : m.length ≤ sizeLine) (hg : Gl X "sorted" := by rfl) (he : starEach [e] X.env = [(false, eval e X.env)] := by rfl) : EVf X B ρ (.Call (.Name "sorted" p) [e] [] pos) ((sortT (m.map (·.1))).map encI) := by
  refine PE.imp (pe_callB (cr_sortedD hc (by omega)) hg bi.sorted bt_sorted (pa_cons ha pa_nil he) (by decide) (by decide) he rfl) fun σ H Q ⟨G, en, k⟩ => ⟨G, en, fun v H1 G1 g1 ⟨a, kvs, e1, e2, e3⟩ => ?_⟩
  subst e1
  refine ⟨a, kvs, m.map (·.1), rfl, e2, e3.keys, fun L r hL hs hr => ?_⟩
  have tc := g1.tc (en.gr.tc B.3)
  have hk : ∀ q ∈ L, q.2.length ≤ 1000 := fun q hq => by
    have h : q.2 ∈ L.map (·.2) := List.mem_map.mpr ⟨q, hq, rfl⟩
    rw [hs] at h
    obtain ⟨e, he, hee⟩ := List.mem_map.mp ((sortT_perm _).mem_iff.mp h)
    rw [← hee]
    exact hkz e he
  have dd := pairs_dq (K := X.K) (G := G1) (ks := L) fun q hq => ⟨tc _ _ (hL q hq), hk q hq⟩
  rw [hs] at dd
  have hl : L.length = m.length := by
    have := congrArg List.length hs
    rw [List.length_map, (sortT_perm _).length_eq, List.length_map] at this
    exact this
  exact k r _ _ G1 (g1.trans (Grow.own g1.sub _ hr)) (g1.hh.free hr) (g1.sub.free hr) upd_same (by rw [List.length_map, hl]; exact hmz) dd
end
end UP

/-! MH: sums of weights, of plans. -/
namespace UP
open PySem PySem.Spec L2
def addW (a c : List Nat) : List Nat := (List.range a.length).map fun i => a.getD i 0 + c.getD i 0
theorem addW_len (a c : List Nat) : (addW a c).length = a.length := by unfold addW; rw [List.length_map, List.length_range]
theorem addW_get {a c : List Nat} {i : Nat} (h : i < a.length) : (addW a c).getD i 0 = a.getD i 0 + c.getD i 0 := getD_map_range h
theorem addW_sum {a c : List Nat} (h : c.length = a.length) : (addW a c).sum = a.sum + c.sum := by
  rw [sum_fsum (addW a c), sum_fsum a, sum_fsum c, addW_len, h, ← fsum_add]
  exact fsum_congr fun i hi => addW_get hi
theorem held_addW {n : Nat} {a c s : List Nat} (ha : a.length = n) (hs : Ris s n) : held (addW a c) s = held a s + held c s := by
  rw [held_fsum hs, held_fsum hs, held_fsum hs, ← fsum_add]
  refine fsum_congr fun i hi => ?_
  rw [addW_get (by rw [ha]; exact hi)]
  split <;> rfl
section
variable {o : List (List Nat)} {a b c d : List Nat}
theorem noPaper_add (ha : a.length = o.length) (hb : b.length = o.length) : NoPaper o (addW a c) (addW b c) ↔ NoPaper o a b := by
  constructor
  · intro h s hs
    have rs := (mem_closed.mp hs).1
    have := h s hs
    rw [held_addW ha rs, held_addW hb rs] at this
    omega
  · intro h s hs
    have rs := (mem_closed.mp hs).1
    have := h s hs
    rw [held_addW ha rs, held_addW hb rs]
    omega
theorem noPaper_both (ha : a.length = o.length) (hb : b.length = o.length) (h1 : NoPaper o a b) (h2 : NoPaper o c d) : NoPaper o (addW a c) (addW b d) := fun s hs => by
  have rs := (mem_closed.mp hs).1
  have q1 := h1 s hs
  have q2 := h2 s hs
  rw [held_addW ha rs, held_addW hb rs]
  omega
theorem noPaper_refl : NoPaper o a a := fun _ _ => Nat.le_refl _
theorem noPaper_trans (h1 : NoPaper o a b) (h2 : NoPaper o b c) : NoPaper o a c := fun s hs => Nat.le_trans (h1 s hs) (h2 s hs)
theorem moved_fsum : ∀ {a b : List Nat}, a.length = b.length → moved a b = fsum (fun i => a.getD i 0 - b.getD i 0) a.length
  | [], [], _ => rfl
  | x :: a, y :: b, h => by
    have ih := moved_fsum (a := a) (b := b) (by simpa using h)
    unfold moved fsum at *
    rw [List.zip_cons_cons, List.map_cons, List.sum_cons, ih, List.length_cons, List.range_succ_eq_map, List.map_cons, List.map_map, List.sum_cons]
    rfl
theorem moved_addW (h : a.length = b.length) : moved (addW a c) (addW b c) = moved a b := by
  rw [moved_fsum (by rw [addW_len, addW_len]; exact h), moved_fsum h, addW_len]
  refine fsum_congr fun i hi => ?_
  rw [addW_get hi, addW_get (by rw [← h]; exact hi)]
  omega
theorem held_stepN {n : Nat} {v s : List Nat} {p g : Nat} (hs : Ris s n) (hv : v.length = n) (hp : p < n) (hg : g < n) (h0 : 0 < v.getD p 0) : held (stepN v p g) s + (if p ∈ s then 1 else 0) = held v s + (if g ∈ s then 1 else 0) := by
  have e1 : (if p ∈ s then 1 else 0) = fsum (fun i => if i = p then (if p ∈ s then 1 else 0) else 0) n := (fsum_single _ hp).symm
  have e2 : (if g ∈ s then 1 else 0) = fsum (fun i => if i = g then (if g ∈ s then 1 else 0) else 0) n := (fsum_single _ hg).symm
  rw [held_fsum hs, held_fsum hs, e1, e2, ← fsum_add, ← fsum_add]
  refine fsum_congr fun i hi => ?_
  rw [stepN_get (by rw [hv]; exact hi)]
  by_cases z1 : i = p
  · subst z1
    by_cases z2 : i = g
    · subst z2; simp only [if_true]; split <;> omega
    · simp only [if_neg z2, if_true]; split <;> omega
  · by_cases z2 : i = g
    · subst z2; simp only [if_neg z1, if_true]; split <;> omega
    · simp only [if_neg z1, if_neg z2]; split <;> omega
theorem noPaper_step {v : List Nat} {p g : Nat} (h : IsOrd o) (hv : v.length = o.length) (hp : p < o.length) (hg : g ∈ above o p) (h0 : 0 < v.getD p 0) : NoPaper o v (stepN v p g) := fun s hs => by
  obtain ⟨rs, cl⟩ := mem_closed.mp hs
  have gl : g < o.length := (h.ris hp).2 g hg
  have := held_stepN rs hv hp gl h0
  by_cases z : p ∈ s
  · have z2 := clo_iff.mp cl p z g hg
    rw [if_pos z, if_pos z2] at this
    omega
  · rw [if_neg z] at this
    omega
end
/-! ### plans put together -/
abbrev Lk := (Nat × Nat) × Nat
def valN (m : List Lk) (k : Nat × Nat) : Option Nat := (m.find? fun e => decide (e.1 = k)).map (·.2)
def putN (m : List Lk) (k : Nat × Nat) (x : Nat) : List Lk := if (m.any fun e => decide (e.1 = k)) = true then m.map (fun e => if e.1 = k then (e.1, x) else e) else m ++ [(k, x)]
def addL (m : List Lk) (r : Row) : List Lk := putN m (r.1, r.2.1) ((valN m (r.1, r.2.1)).getD 0 + r.2.2)
def encM (m : List Lk) : List (List Int × PyData) := m.map fun e => (ofQ e.1, encN e.2)
theorem valD_enc (k : Nat × Nat) : ∀ m : List Lk, valD (encM m) (ofQ k) = (valN m k).map encN
  | [] => rfl
  | e :: m => by
    have ih := valD_enc k m
    unfold valD encM valN at *
    rw [List.map_cons]
    by_cases z : e.1 = k
    · rw [List.find?_cons_of_pos (by simpa using congrArg ofQ z), List.find?_cons_of_pos (by simpa using z)]; rfl
    · rw [List.find?_cons_of_neg (by simpa using fun q => z (ofQ_inj q)), List.find?_cons_of_neg (by simpa using z)]; exact ih
theorem any_enc (k : Nat × Nat) (m : List Lk) : ((encM m).any fun e => decide (e.1 = ofQ k)) = m.any fun e => decide (e.1 = k) := by
  unfold encM
  rw [List.any_map]
  congr 1
  funext e
  exact decide_eq_decide.mpr ⟨fun z => ofQ_inj z, fun z => congrArg ofQ z⟩
theorem putD_enc (m : List Lk) (k : Nat × Nat) (x : Nat) : putD (encM m) (ofQ k) (encN x) = encM (putN m k x) := by
  unfold putD putN
  rw [any_enc]
  split
  · unfold encM
    rw [List.map_map, List.map_map]
    refine List.map_congr_left fun e _ => ?_
    show (if ofQ e.1 = ofQ k then _ else _) = _
    show _ = (fun e : Lk => (ofQ e.1, encN e.2)) (if e.1 = k then (e.1, x) else e)
    by_cases z : e.1 = k
    · rw [if_pos z, if_pos (congrArg ofQ z)]
    · rw [if_neg z, if_neg fun q => z (ofQ_inj q)]
  · unfold encM
    rw [List.map_append]
    rfl
def esum (f : Nat × Nat → Bool) (m : List Lk) : Nat := ((m.filter fun e => f e.1).map (·.2)).sum
theorem esum_cons (f : Nat × Nat → Bool) (e : Lk) (m : List Lk) : esum f (e :: m) = (if f e.1 = true then e.2 else 0) + esum f m := by
  unfold esum
  rw [List.filter_cons]
  split
  · rw [List.map_cons, List.sum_cons]
  · omega
theorem esum_append (f : Nat × Nat → Bool) (m n : List Lk) : esum f (m ++ n) = esum f m + esum f n := by
  unfold esum
  rw [List.filter_append, List.map_append, List.sum_append]
def Kn (m : List Lk) : Prop := (m.map (·.1)).Nodup
theorem val_none {m : List Lk} {k : Nat × Nat} : valN m k = none ↔ k ∉ m.map (·.1) := by
  unfold valN
  rw [Option.map_eq_none_iff, List.find?_eq_none]
  constructor
  · intro h hk
    obtain ⟨e, he, hk⟩ := List.mem_map.mp hk
    exact h e he (by simpa using hk)
  · intro h e he hk
    exact h (List.mem_map.mpr ⟨e, he, by simpa using hk⟩)
theorem any_iff {m : List Lk} {k : Nat × Nat} : (m.any fun e => decide (e.1 = k)) = true ↔ k ∈ m.map (·.1) := by
  rw [List.any_eq_true, List.mem_map]
  constructor
  · rintro ⟨e, he, hk⟩; exact ⟨e, he, by simpa using hk⟩
  · rintro ⟨e, he, hk⟩; exact ⟨e, he, by simpa using hk⟩
theorem repl_keys (m : List Lk) (k : Nat × Nat) (x : Nat) : (m.map fun e => if e.1 = k then (e.1, x) else e).map (·.1) = m.map (·.1) := by
  rw [List.map_map]
  refine List.map_congr_left fun e _ => ?_
  show (if e.1 = k then (e.1, x) else e).1 = e.1
  split <;> rfl
theorem put_keys (m : List Lk) (k : Nat × Nat) (x : Nat) : (putN m k x).map (·.1) = if k ∈ m.map (·.1) then m.map (·.1) else m.map (·.1) ++ [k] := by
  unfold putN
  by_cases h : k ∈ m.map (·.1)
  · rw [if_pos (any_iff.mpr h), if_pos h, repl_keys]
  · rw [if_neg (fun z => h (any_iff.mp z)), if_neg h, List.map_append]; rfl
theorem put_kn {m : List Lk} (h : Kn m) (k : Nat × Nat) (x : Nat) : Kn (putN m k x) := by
  unfold Kn
  rw [put_keys]
  split
  · exact h
  · rename_i z
    refine List.nodup_append.mpr ⟨h, List.nodup_cons.mpr ⟨by simp, List.nodup_nil⟩, fun a ha b hb e => ?_⟩
    rw [List.mem_singleton.mp hb] at e
    subst e
    exact z ha
theorem repl_sum (f : Nat × Nat → Bool) (k : Nat × Nat) (x : Nat) : ∀ {m : List Lk}, Kn m → ∀ {y : Nat}, valN m k = some y → esum f (m.map fun e => if e.1 = k then (e.1, y + x) else e) = esum f m + if f k = true then x else 0
  | [], _, y, h => by cases h
  | e :: m, hn, y, h => by
    obtain ⟨h1, h2⟩ := List.nodup_cons.mp (show (e.1 :: m.map (·.1)).Nodup from hn)
    rw [List.map_cons, esum_cons, esum_cons]
    by_cases z : e.1 = k
    · have ey : e.2 = y := by
        unfold valN at h
        rw [List.find?_cons_of_pos (by simpa using z)] at h
        exact Option.some.inj h
      have e2 : (m.map fun e => if e.1 = k then (e.1, y + x) else e) = m := by
        rw [List.map_congr_left (g := id), List.map_id]
        intro q hq
        rw [if_neg]
        · rfl
        · intro w
          exact h1 (List.mem_map.mpr ⟨q, hq, w.trans z.symm⟩)
      rw [e2, if_pos z]
      show (if f e.1 = true then y + x else 0) + _ = _
      rw [z, ey]
      split <;> omega
    · have h' : valN m k = some y := by
        unfold valN at h ⊢
        rw [List.find?_cons_of_neg (by simpa using z)] at h
        exact h
      rw [if_neg z, repl_sum f k x h2 h']
      omega
theorem addL_sum (f : Nat × Nat → Bool) {m : List Lk} (h : Kn m) (r : Row) : esum f (addL m r) = esum f m + if f (r.1, r.2.1) = true then r.2.2 else 0 := by
  unfold addL
  cases e : valN m (r.1, r.2.1) with
  | none =>
    have hk := val_none.mp e
    unfold putN
    rw [if_neg fun z => hk (any_iff.mp z), esum_append, esum_cons]
    show esum f m + ((if f (r.1, r.2.1) = true then 0 + r.2.2 else 0) + 0) = _
    split <;> omega
  | some y =>
    have hk : (r.1, r.2.1) ∈ m.map (·.1) := Classical.byContradiction fun z => by rw [val_none.mpr z] at e; cases e
    unfold putN
    rw [if_pos (any_iff.mpr hk)]
    exact repl_sum f _ _ h e
def mergeL (rows : List Row) : List Lk := rows.foldl addL []
theorem merge_take {rows : List Row} {i : Nat} {r : Row} (h : rows[i]? = some r) : mergeL (rows.take (i + 1)) = addL (mergeL (rows.take i)) r := by
  rw [take_get h]
  unfold mergeL
  rw [List.foldl_append]
  rfl
theorem fold_ok (f : Nat × Nat → Bool) : ∀ (rows : List Row) (m : List Lk), Kn m → Kn (rows.foldl addL m) ∧ esum f (rows.foldl addL m) = esum f m + rsum (fun r => f (r.1, r.2.1)) rows
  | [], m, h => ⟨h, by unfold rsum; simp⟩
  | r :: rows, m, h => by
    obtain ⟨h1, h2⟩ := fold_ok f rows (addL m r) (put_kn h _ _)
    refine ⟨h1, ?_⟩
    show esum f (rows.foldl addL (addL m r)) = _
    rw [h2, addL_sum f h]
    unfold rsum
    rw [List.filter_cons]
    split
    · rw [List.map_cons, List.sum_cons]; omega
    · omega
theorem fold_keys : ∀ (rows : List Row) (m : List Lk) (k : Nat × Nat), k ∈ (rows.foldl addL m).map (·.1) ↔ k ∈ m.map (·.1) ∨ ∃ r ∈ rows, k = (r.1, r.2.1)
  | [], m, k => by simp
  | r :: rows, m, k => by
    show k ∈ (rows.foldl addL (addL m r)).map (·.1) ↔ _
    rw [fold_keys rows (addL m r) k]
    unfold addL
    rw [put_keys]
    constructor
    · rintro (h | ⟨q, hq, h⟩)
      · split at h
        · exact .inl h
        · rcases List.mem_append.mp h with h | h
          · exact .inl h
          · exact .inr ⟨r, List.mem_cons_self, List.mem_singleton.mp h⟩
      · exact .inr ⟨q, List.mem_cons_of_mem _ hq, h⟩
    · rintro (h | ⟨q, hq, h⟩)
      · refine .inl ?_
        split
        · exact h
        · exact List.mem_append.mpr (.inl h)
      · rcases List.mem_cons.mp hq with z | z
        · refine .inl ?_
          rw [h, z]
          split
          · assumption
          · exact List.mem_append.mpr (.inr (List.mem_singleton.mpr rfl))
        · exact .inr ⟨q, z, h⟩
theorem fold_pos : ∀ (rows : List Row) (m : List Lk), (∀ e ∈ m, 1 ≤ e.2) → (∀ r ∈ rows, 1 ≤ r.2.2) → ∀ e ∈ rows.foldl addL m, 1 ≤ e.2
  | [], m, h, _ => h
  | r :: rows, m, h, hr => by
    refine fold_pos rows (addL m r) (fun e he => ?_) fun q hq => hr q (List.mem_cons_of_mem _ hq)
    have h1 := hr r List.mem_cons_self
    unfold addL putN at he
    split at he
    · obtain ⟨q, hq, rfl⟩ := List.mem_map.mp he
      split
      · show 1 ≤ _ + r.2.2; omega
      · exact h q hq
    · rcases List.mem_append.mp he with z | z
      · exact h e z
      · rw [List.mem_singleton.mp z]; show 1 ≤ _ + r.2.2; omega
theorem val_mem {m : List Lk} (h : Kn m) {e : Lk} (he : e ∈ m) : valN m e.1 = some e.2 := by
  induction m with
  | nil => cases he
  | cons q m ih =>
    obtain ⟨h1, h2⟩ := List.nodup_cons.mp (show (q.1 :: m.map (·.1)).Nodup from h)
    unfold valN
    rcases List.mem_cons.mp he with z | z
    · rw [z, List.find?_cons_of_pos (by simp)]; rfl
    · have hq : ¬ q.1 = e.1 := fun w => h1 (w ▸ List.mem_map.mpr ⟨e, z, rfl⟩)
      rw [List.find?_cons_of_neg (by simpa using hq)]
      exact ih h2 z
def bothOf (m : List Lk) : List Row := (sort2 (m.map (·.1))).map fun q => (q.1, q.2, (valN m q).getD 0)
theorem sort2_perm {l : List (Nat × Nat)} (h : l.Nodup) : (sort2 l).Perm l := by
  refine (List.perm_ext_iff_of_nodup ?_ h).mpr fun x => mem_sort2
  refine (sort2_srt l).imp fun {u v} q e => ?_
  subst e
  unfold lex2 at q
  omega
theorem both_perm {m : List Lk} (h : Kn m) : (bothOf m).Perm (m.map fun e => (e.1.1, e.1.2, e.2)) := by
  unfold bothOf
  refine ((sort2_perm h).map _).trans (List.Perm.of_eq ?_)
  rw [List.map_map]
  refine List.map_congr_left fun e he => ?_
  show (e.1.1, e.1.2, (valN m e.1).getD 0) = _
  rw [val_mem h he]
  rfl
theorem rsum_both {m : List Lk} (h : Kn m) (f : Nat × Nat → Bool) : rsum (fun r => f (r.1, r.2.1)) (bothOf m) = esum f m := by
  rw [rsum_perm (both_perm h)]
  unfold rsum esum
  rw [List.filter_map, List.map_map]
  rfl
theorem sort_keys {m : List Lk} (h : Kn m) : sortT ((encM m).map (·.1)) = (sort2 (m.map (·.1))).map ofQ := by
  have e : (encM m).map (·.1) = (m.map (·.1)).map ofQ := by unfold encM; rw [List.map_map, List.map_map]; rfl
  rw [e]
  refine srtT_uniq (sortT_sorted _) ?_ ((sortT_perm _).trans ((sort2_perm h).map ofQ).symm)
  refine List.pairwise_map.mpr ((sort2_srt _).imp fun {u v} q => ?_)
  show HT.lexLt [(v.1 : Int), (v.2 : Int)] [(u.1 : Int), (u.2 : Int)] = false
  unfold lex2 at q
  unfold HT.lexLt
  by_cases z : (v.1 : Int) = u.1
  · rw [if_pos z]
    unfold HT.lexLt
    rw [if_neg (by omega)]
    exact decide_eq_false (by omega)
  · rw [if_neg z]
    exact decide_eq_false (by omega)
theorem both_plan {o : List (List Nat)} {a b c d : List Nat} {r1 r2 : List Row} (I1 : IsPl o a b r1) (I2 : IsPl o c d r2) (ha : a.length = o.length) (hb : b.length = o.length) (hc : c.length = o.length) (hs : a.sum + c.sum ≤ 9) : IsPl o (addW a c) (addW b d) (bothOf (mergeL (r1 ++ r2))) := by
  have kn : Kn (mergeL (r1 ++ r2)) := (fold_ok (fun _ => true) (r1 ++ r2) [] List.nodup_nil).1
  have es : ∀ f : Nat × Nat → Bool, esum f (mergeL (r1 ++ r2)) = rsum (fun r => f (r.1, r.2.1)) r1 + rsum (fun r => f (r.1, r.2.1)) r2 := fun f => by
    unfold mergeL
    rw [(fold_ok f (r1 ++ r2) [] List.nodup_nil).2, rsum_append]
    show 0 + _ = _
    omega
  have hall : ∀ r ∈ r1 ++ r2, r.1 < o.length ∧ r.2.1 < o.length ∧ 1 ≤ r.2.2 ∧ (r.1 = r.2.1 ∨ r.2.1 ∈ above o r.1) := fun r hr => by
    rcases List.mem_append.mp hr with z | z
    · obtain ⟨q1, q2, q3, _, q5⟩ := I1.ok r z
      exact ⟨q1, q2, q3, q5⟩
    · obtain ⟨q1, q2, q3, _, q5⟩ := I2.ok r z
      exact ⟨q1, q2, q3, q5⟩
  refine ⟨fun r hr => ?_, ?_, fun p hp => ?_, fun p hp => ?_⟩
  · have hr' := (both_perm kn).mem_iff.mp hr
    obtain ⟨e, he, rfl⟩ := List.mem_map.mp hr'
    have hk : e.1 ∈ (mergeL (r1 ++ r2)).map (·.1) := List.mem_map.mpr ⟨e, he, rfl⟩
    rcases (fold_keys (r1 ++ r2) [] e.1).mp hk with z | ⟨q, hq, hqe⟩
    · cases z
    obtain ⟨q1, q2, q3, q5⟩ := hall q hq
    have x1 : e.1.1 = q.1 := congrArg (·.1) hqe
    have x2 : e.1.2 = q.2.1 := congrArg (·.2) hqe
    have pos := fold_pos (r1 ++ r2) [] (fun _ z => by cases z) (fun r hr => (hall r hr).2.2.1) e he
    have tot := es fun _ => true
    have t1 : rsum (fun _ => true) r1 = a.sum := by
      rw [← plan_amt I1 ha]
      unfold rsum
      rw [filt_true]
    have t2 : rsum (fun _ => true) r2 = c.sum := by
      rw [← plan_amt I2 hc]
      unfold rsum
      rw [filt_true]
    have le : e.2 ≤ esum (fun _ => true) (mergeL (r1 ++ r2)) := by
      unfold esum
      rw [filt_true]
      exact le_sum (List.mem_map.mpr ⟨e, he, rfl⟩)
    refine ⟨by show e.1.1 < _; omega, by show e.1.2 < _; omega, pos, ?_, ?_⟩
    · show e.2 ≤ 9
      rw [tot] at le
      have le' : e.2 ≤ rsum (fun _ => true) r1 + rsum (fun _ => true) r2 := le
      omega
    · show e.1.1 = e.1.2 ∨ e.1.2 ∈ above o e.1.1
      rw [x1, x2]
      exact q5
  · unfold bothOf
    exact List.pairwise_map.mpr ((sort2_srt _).imp fun h => h)
  · have := rsum_both kn fun q => decide (q.1 = p)
    rw [addW_get (by rw [ha]; exact hp)]
    refine this.trans ((es _).trans ?_)
    rw [← I1.frm p hp, ← I2.frm p hp]
  · have := rsum_both kn fun q => decide (q.2 = p)
    rw [addW_get (by rw [hb]; exact hp)]
    refine this.trans ((es _).trans ?_)
    rw [← I1.to p hp, ← I2.to p hp]
theorem pn_iff {o : List (List Nat)} {a b : List Nat} : (paperOf o a b).isNone = true ↔ NoPaper o a b := by rw [Option.isNone_iff_eq_none, paper_none]
theorem pn_true {o : List (List Nat)} {a b : List Nat} (h : NoPaper o a b) : (paperOf o a b).isNone = true := pn_iff.mpr h
theorem pn_false {o : List (List Nat)} {a b : List Nat} (h : ¬ NoPaper o a b) : (paperOf o a b).isNone = false := by
  rw [← Bool.not_eq_true]
  exact fun z => h (pn_iff.mp z)
theorem ix_last {α : Type} {f : α → PyData} {xs : List α} (h : xs ≠ []) : atI (xs.map f) (-1) = some (f (xs.getLast h)) := by
  conv => lhs; rw [← List.dropLast_concat_getLast h, List.map_append]
  exact atI_last _ _
/-! ### some units moved up -/
def upOne (o : List (List Nat)) (v : List Nat) (p : Nat) : List Nat := if h : 0 < v.getD p 0 ∧ above o p ≠ [] then stepN v p ((above o p).getLast h.2) else v
def upTo (o : List (List Nat)) (v : List Nat) : Nat → List Nat
  | 0 => v
  | p + 1 => upOne o (upTo o v p) p
theorem upOne_ok {o : List (List Nat)} {v : List Nat} {p : Nat} (h : IsOrd o) (hv : v.length = o.length) (hp : p < o.length) : (upOne o v p).length = o.length ∧ (upOne o v p).sum = v.sum ∧ NoPaper o v (upOne o v p) := by
  unfold upOne
  split
  · rename_i q
    have hg : (above o p).getLast q.2 ∈ above o p := List.getLast_mem q.2
    have gl := (h.ris hp).2 _ hg
    exact ⟨by rw [stepN_len]; exact hv, stepN_sum (by omega) (by omega) q.1, noPaper_step h hv hp hg q.1⟩
  · exact ⟨hv, rfl, noPaper_refl⟩
theorem upTo_ok {o : List (List Nat)} {v : List Nat} (h : IsOrd o) (hv : v.length = o.length) : ∀ p, p ≤ o.length → (upTo o v p).length = o.length ∧ (upTo o v p).sum = v.sum ∧ NoPaper o v (upTo o v p)
  | 0, _ => ⟨hv, rfl, noPaper_refl⟩
  | p + 1, hp => by
    obtain ⟨a1, a2, a3⟩ := upTo_ok h hv p (by omega)
    obtain ⟨b1, b2, b3⟩ := upOne_ok (p := p) h a1 (by omega)
    exact ⟨b1, b2.trans a2, noPaper_trans a3 b3⟩
theorem foldL_len : ∀ (rows : List Row) (m : List Lk), (rows.foldl addL m).length ≤ m.length + rows.length
  | [], m => Nat.le_refl _
  | r :: rows, m => by
    have h1 := foldL_len rows (addL m r)
    have h2 : (addL m r).length ≤ m.length + 1 := by
      unfold addL putN
      split
      · rw [List.length_map]; omega
      · rw [List.length_append]; exact Nat.le_refl _
    rw [List.length_cons]
    show (rows.foldl addL (addL m r)).length ≤ _
    omega
theorem merge_len (rows : List Row) : (mergeL rows).length ≤ rows.length := by
  have := foldL_len rows []
  rw [List.length_nil, Nat.zero_add] at this
  exact this
end UP

/-! MI: steps to upper neighbors, ways. -/
namespace UP
open PySem PySem.Spec L2
section
variable {o : List (List Nat)} {v u w a b : List Nat} {p g x y : Nat}
theorem next_mem (h : g ∈ nextAbove o p) : g ∈ above o p := (List.mem_filter.mp h).1
theorem next_iff : g ∈ nextAbove o p ↔ g ∈ above o p ∧ ∀ k ∈ above o p, g ∉ above o k := by
  unfold nextAbove
  rw [List.mem_filter, List.isEmpty_iff, List.filter_eq_nil_iff]
  constructor
  · rintro ⟨h1, h2⟩
    exact ⟨h1, fun k hk z => h2 k hk (by simpa using z)⟩
  · rintro ⟨h1, h2⟩
    exact ⟨h1, fun k hk z => h2 k hk (by simpa using z)⟩
theorem IsOrd.irrA (h : IsOrd o) (hp : p < o.length) : p ∉ above o p := h.irr p _ (h.row hp)
theorem IsOrd.trA (h : IsOrd o) (hp : p < o.length) (hg : g ∈ above o p) : ∀ k ∈ above o g, k ∈ above o p := h.tr p g _ _ (h.row hp) hg (h.row ((h.ris hp).2 g hg))
theorem IsOrd.lessA (h : IsOrd o) (hp : p < o.length) (hg : g ∈ above o p) : (above o g).length < (above o p).length := by
  have gl := (h.ris hp).2 g hg
  have nd : (g :: above o g).Nodup := List.nodup_cons.mpr ⟨h.irrA gl, (h.ris gl).1.imp fun h => Nat.ne_of_lt h⟩
  have := sub_len (m := above o p) nd fun k hk => by
    rcases List.mem_cons.mp hk with z | z
    · rw [z]; exact hg
    · exact h.trA hp hg k z
  rw [List.length_cons] at this
  omega
/-- between a point and a greater one stands an upper neighbor -/
theorem cover (h : IsOrd o) (hp : p < o.length) (hg : g ∈ above o p) : ∃ m ∈ nextAbove o p, m = g ∨ g ∈ above o m := by
  have main : ∀ n, ∀ m ∈ above o p, (m = g ∨ g ∈ above o m) → o.length - (above o m).length ≤ n → ∃ m ∈ nextAbove o p, m = g ∨ g ∈ above o m := by
    intro n
    induction n with
    | zero =>
      intro m hm _ hz
      have ml := (h.ris hp).2 m hm
      have := rise_len (h.ris hp).1 (h.ris hp).2
      have := h.lessA hp hm
      omega
    | succ n ih =>
      intro m hm hmg hn
      by_cases hx : ∃ k ∈ above o p, m ∈ above o k
      · obtain ⟨k, hk, hmk⟩ := hx
        have kl := (h.ris hp).2 k hk
        have l1 := h.lessA kl hmk
        have l2 := rise_len (h.ris kl).1 (h.ris kl).2
        refine ih k hk (.inr ?_) (by omega)
        rcases hmg with z | z
        · rw [← z]; exact hmk
        · exact h.trA kl hmk g z
      · exact ⟨m, next_iff.mpr ⟨hm, fun k hk z => hx ⟨k, hk, z⟩⟩, hmg⟩
  exact main _ g hg (.inl rfl) (Nat.le_refl _)
def upFirst (o : List (List Nat)) (x g : Nat) : List Nat := (nextAbove o x).filter fun m => (decide (m = g) || decide (g ∈ above o m))
theorem upFirst_ne (h : IsOrd o) (hp : p < o.length) (hg : g ∈ above o p) : ∃ m r, upFirst o p g = m :: r ∧ m ∈ nextAbove o p ∧ (m = g ∨ g ∈ above o m) := by
  obtain ⟨m, hm, hmg⟩ := cover h hp hg
  have hin : m ∈ upFirst o p g := List.mem_filter.mpr ⟨hm, by simpa using hmg⟩
  cases e : upFirst o p g with
  | nil => rw [e] at hin; cases hin
  | cons z r =>
    have hz : z ∈ upFirst o p g := by rw [e]; exact List.mem_cons_self
    obtain ⟨h1, h2⟩ := List.mem_filter.mp hz
    exact ⟨z, r, rfl, h1, by simpa using h2⟩
/-- the way up, by fuel -/
def climbF (o : List (List Nat)) (g : Nat) : Nat → Nat → List Nat
  | 0, x => [x]
  | f + 1, x => if x = g then [x] else x :: climbF o g f ((upFirst o x g).getD 0 0)
def climbOf (o : List (List Nat)) (x g : Nat) : List Nat := climbF o g o.length x
inductive Up (o : List (List Nat)) : Nat → List Nat → Nat → Prop
  | one (x : Nat) : Up o x [x] x
  | cons {x y z : Nat} {l : List Nat} : y ∈ nextAbove o x → Up o y l z → Up o x (x :: l) z
theorem climbF_self (f : Nat) : climbF o g f g = [g] := by
  cases f with
  | zero => rfl
  | succ f => unfold climbF; rw [if_pos rfl]
theorem climbF_next (h : IsOrd o) {f : Nat} (hx : x < o.length) (hg : g ∈ above o x) (hf : (above o x).length ≤ f) : ∃ m f', f = f' + 1 ∧ (upFirst o x g)[0]? = some m ∧ climbF o g f x = x :: climbF o g f' m ∧ m ∈ nextAbove o x ∧ (m = g ∨ g ∈ above o m) ∧ m < o.length ∧ (above o m).length ≤ f' := by
  obtain ⟨m, r, e, h1, h2⟩ := upFirst_ne h hx hg
  have hl := h.lessA hx (next_mem h1)
  cases f with
  | zero => omega
  | succ f =>
    refine ⟨m, f, rfl, by rw [e]; rfl, ?_, h1, h2, (h.ris hx).2 m (next_mem h1), by omega⟩
    have ne : x ≠ g := fun z => h.irrA hx (z ▸ hg)
    conv => lhs; unfold climbF
    rw [if_neg ne, e]
    rfl
theorem climbF_up (h : IsOrd o) : ∀ (f x : Nat), x < o.length → (x = g ∨ g ∈ above o x) → (above o x).length ≤ f → Up o x (climbF o g f x) g ∧ (climbF o g f x).length ≤ f + 1
  | f, x, hx, .inl e, _ => by
    subst e
    rw [climbF_self]
    exact ⟨.one _, by rw [List.length_singleton]; omega⟩
  | f, x, hx, .inr hg, hf => by
    obtain ⟨m, f', rfl, _, e, h1, h2, h3, h4⟩ := climbF_next h hx hg hf
    obtain ⟨i1, i2⟩ := climbF_up h f' m h3 h2 h4
    rw [e]
    exact ⟨.cons h1 i1, by rw [List.length_cons]; omega⟩
theorem above_len (h : IsOrd o) (hx : x < o.length) : (above o x).length ≤ o.length := rise_len (h.ris hx).1 (h.ris hx).2
theorem climb_up (h : IsOrd o) (hx : x < o.length) (hg : x = g ∨ g ∈ above o x) : Up o x (climbOf o x g) g ∧ (climbOf o x g).length ≤ 7 := by
  obtain ⟨i1, i2⟩ := climbF_up h o.length x hx hg (above_len h hx)
  exact ⟨i1, Nat.le_trans i2 (by have := h.most; omega)⟩
theorem Up.mem (h : IsOrd o) : ∀ {l : List Nat} {x y : Nat}, Up o x l y → x < o.length → ∀ z ∈ l, z < o.length
  | _, _, _, .one x, hx => fun z hz => by rw [List.mem_singleton.mp hz]; exact hx
  | _, _, _, .cons hy t, hx => fun z hz => by
    rcases List.mem_cons.mp hz with e | e
    · rw [e]; exact hx
    · exact Up.mem h t ((h.ris hx).2 _ (next_mem hy)) z e
theorem Up.ne {l : List Nat} {x y : Nat} (h : Up o x l y) : ∃ r, l = x :: r := by
  cases h with
  | one => exact ⟨[], rfl⟩
  | cons _ _ => exact ⟨_, rfl⟩
/-! ### steps -/
def St (o : List (List Nat)) (v w : List Nat) : Prop := ∃ p g, p < o.length ∧ 0 < v.getD p 0 ∧ g ∈ nextAbove o p ∧ w = stepN v p g
theorem St.ok (h : IsOrd o) (hv : v.length = o.length) (s : St o v w) : NoPaper o v w ∧ w.length = o.length ∧ w.sum = v.sum := by
  obtain ⟨p, g, hp, h0, hg, rfl⟩ := s
  have hg' := next_mem hg
  have gl := (h.ris hp).2 g hg'
  exact ⟨noPaper_step h hv hp hg' h0, by rw [stepN_len]; exact hv, stepN_sum (by omega) (by omega) h0⟩
inductive Pth (o : List (List Nat)) : Nat → List Nat → List Nat → Prop
  | nil (v : List Nat) : Pth o 0 v v
  | cons {k : Nat} {v u w : List Nat} : St o v u → Pth o k u w → Pth o (k + 1) v w
theorem Pth.trans {j k : Nat} : ∀ {v u w : List Nat}, Pth o j v u → Pth o k u w → Pth o (j + k) v w := by
  intro v u w h1 h2
  induction h1 with
  | nil v => rw [Nat.zero_add]; exact h2
  | cons s _ ih => rw [Nat.add_right_comm]; exact .cons s (ih h2)
theorem Pth.snoc {k : Nat} (h : Pth o k v u) (s : St o u w) : Pth o (k + 1) v w := h.trans (.cons s (.nil w))
theorem Pth.ok (h : IsOrd o) {k : Nat} : ∀ {v w : List Nat}, Pth o k v w → v.length = o.length → NoPaper o v w ∧ w.length = o.length ∧ w.sum = v.sum := by
  intro v w t
  induction t with
  | nil v => exact fun hv => ⟨noPaper_refl, hv, rfl⟩
  | cons s _ ih =>
    intro hv
    obtain ⟨a1, a2, a3⟩ := s.ok h hv
    obtain ⟨b1, b2, b3⟩ := ih a2
    exact ⟨noPaper_trans a1 b1, b2, b3.trans a3⟩
theorem Pth.last {k : Nat} : ∀ {v w : List Nat}, Pth o (k + 1) v w → ∃ u, Pth o k v u ∧ St o u w := by
  induction k with
  | zero =>
    intro v w t
    cases t with
    | cons s t => cases t with | nil => exact ⟨v, .nil v, s⟩
  | succ k ih =>
    intro v w t
    cases t with
    | cons s t =>
      obtain ⟨u, h1, h2⟩ := ih t
      exact ⟨u, .cons s h1, h2⟩
/-! ### one unit, some units, a plan -/
theorem bump_get (hx : x < v.length) (i : Nat) : (bump v x).getD i 0 = v.getD i 0 + (if i = x then 1 else 0) := by
  unfold bump
  rw [getD_set _ _ _ _ hx]
  by_cases e : i = x
  · rw [if_pos e, if_pos e, e]
  · rw [if_neg e, if_neg e]; rfl
theorem step_bump (hx : x < v.length) (hy : y < v.length) : stepN (bump v x) x y = bump v y := by
  refine ext_getD (by rw [stepN_len, bump_len, bump_len]) fun i hi => ?_
  rw [stepN_len, bump_len] at hi
  rw [stepN_get (by rw [bump_len]; exact hi), bump_get hx, bump_get hy]
  omega
def addk (u : List Nat) (x k : Nat) : List Nat := u.set x (u.getD x 0 + k)
theorem addk_get (hx : x < u.length) (k i : Nat) : (addk u x k).getD i 0 = u.getD i 0 + (if i = x then k else 0) := by
  unfold addk
  rw [getD_set _ _ _ _ hx]
  by_cases e : i = x
  · rw [if_pos e, if_pos e, e]
  · rw [if_neg e, if_neg e]; rfl
theorem addk_len (k : Nat) : (addk u x k).length = u.length := by unfold addk; rw [List.length_set]
def lastW (l : List (List Nat)) : List Nat := l.getLast?.getD []
def addStep (l : List (List Nat)) (e : Nat × Nat) : List (List Nat) := l ++ [stepN (lastW l) e.1 e.2]
def prs (l : List Nat) : List (Nat × Nat) := l.zip (l.drop 1)
inductive Chn (o : List (List Nat)) (a : List Nat) : List (List Nat) → List Nat → Prop
  | one : Chn o a [a] a
  | snoc {l : List (List Nat)} {b c : List Nat} : Chn o a l b → St o b c → Chn o a (l ++ [c]) c
theorem Chn.last {l : List (List Nat)} (h : Chn o a l b) : lastW l = b := by
  cases h with
  | one => rfl
  | snoc _ _ => unfold lastW; rw [List.getLast?_append]; rfl
/-- good steps, one after the other -/
inductive GT (o : List (List Nat)) : List Nat → List (Nat × Nat) → List Nat → Prop
  | nil (v : List Nat) : GT o v [] v
  | cons {v w : List Nat} {x y : Nat} {T : List (Nat × Nat)} : x < o.length → y ∈ nextAbove o x → 0 < v.getD x 0 → GT o (stepN v x y) T w → GT o v ((x, y) :: T) w
theorem GT.append {T1 T2 : List (Nat × Nat)} : ∀ {v u w : List Nat}, GT o v T1 u → GT o u T2 w → GT o v (T1 ++ T2) w := by
  intro v u w h1 h2
  induction h1 with
  | nil v => exact h2
  | cons a b c _ ih => exact .cons a b c (ih h2)
theorem GT.mid {e : Nat × Nat} {T2 : List (Nat × Nat)} : ∀ {T1 : List (Nat × Nat)} {v w : List Nat}, GT o v (T1 ++ e :: T2) w → ∃ u, GT o v T1 u ∧ e.1 < o.length ∧ e.2 ∈ nextAbove o e.1 ∧ 0 < u.getD e.1 0
  | [], v, w, h => by
    cases h with
    | cons a b c _ => exact ⟨v, .nil v, a, b, c⟩
  | q :: T1, v, w, h => by
    cases h with
    | cons a b c t =>
      obtain ⟨u, h1, h2⟩ := GT.mid (T1 := T1) t
      exact ⟨u, .cons a b c h1, h2⟩
theorem GT.len {T : List (Nat × Nat)} {v w : List Nat} (h : GT o v T w) : w.length = v.length := by
  induction h with
  | nil v => rfl
  | cons _ _ _ _ ih => rw [ih, stepN_len]
theorem GT.last {T : List (Nat × Nat)} {v w : List Nat} (h : GT o v T w) : ∀ {l : List (List Nat)}, lastW l = v → lastW (T.foldl addStep l) = w := by
  induction h with
  | nil v => exact fun h => h
  | cons _ _ _ _ ih =>
    rename_i v w x y T _ _ _ _
    intro l hl
    refine ih (l := addStep l (x, y)) ?_
    unfold addStep lastW at *
    rw [List.getLast?_append, hl]
    rfl
theorem GT.chn {T : List (Nat × Nat)} {v w : List Nat} (h : GT o v T w) : ∀ {l : List (List Nat)}, Chn o a l v → Chn o a (T.foldl addStep l) w := by
  induction h with
  | nil v => exact fun h => h
  | cons h1 h2 h3 _ ih =>
    rename_i v w x y T _
    intro l c
    refine ih (l := addStep l (x, y)) ?_
    unfold addStep
    rw [c.last]
    exact .snoc c ⟨x, y, h1, h3, h2, rfl⟩
theorem GT.unit (h : IsOrd o) (hu : u.length = o.length) : ∀ {l : List Nat} {x y : Nat}, Up o x l y → x < o.length → GT o (bump u x) (prs l) (bump u y)
  | _, _, _, .one x, _ => .nil _
  | _, x, z, .cons (y := y) (l := l) hy t, hx => by
    obtain ⟨r, rfl⟩ := t.ne
    have yl := (h.ris hx).2 y (next_mem hy)
    show GT o (bump u x) ((x, y) :: prs (y :: r)) (bump u z)
    refine .cons hx hy (by rw [bump_get (by omega), if_pos rfl]; omega) ?_
    rw [step_bump (by omega) (by omega)]
    exact GT.unit h hu t yl
theorem GT.units (h : IsOrd o) {l : List Nat} {x y : Nat} (t : Up o x l y) (hx : x < o.length) (hy : y < o.length) : ∀ (k : Nat) {u : List Nat}, u.length = o.length → GT o (addk u x k) (List.replicate k (prs l)).flatten (addk u y k)
  | 0, u, hu => by
    have e : ∀ z, z < o.length → addk u z 0 = u := fun z hz => ext_getD (addk_len 0) fun i _ => by rw [addk_get (by omega)]; split <;> rfl
    rw [e x hx, e y hy]
    exact .nil u
  | k + 1, u, hu => by
    have e1 : addk u x (k + 1) = bump (addk u x k) x := ext_getD (by rw [addk_len, bump_len, addk_len]) fun i _ => by
      rw [addk_get (by omega), bump_get (by rw [addk_len]; omega), addk_get (by omega)]
      split <;> omega
    have c1 := GT.unit h (u := addk u x k) (by rw [addk_len]; exact hu) t hx
    have e2 : bump (addk u x k) y = addk (bump u y) x k := ext_getD (by rw [addk_len, bump_len, bump_len, addk_len]) fun i _ => by
      rw [bump_get (by rw [addk_len]; omega), addk_get (by omega), addk_get (by rw [bump_len]; omega), bump_get (by omega)]
      omega
    rw [e2] at c1
    have c2 := GT.units h t hx hy k (u := bump u y) (by rw [bump_len]; exact hu)
    have e3 : addk (bump u y) y k = addk u y (k + 1) := ext_getD (by rw [addk_len, bump_len, addk_len]) fun i _ => by
      rw [addk_get (by rw [bump_len]; omega), bump_get (by omega), addk_get (by omega)]
      split <;> omega
    rw [e3] at c2
    rw [e1, List.replicate_succ, List.flatten_cons]
    exact c1.append c2
def Wt (n : Nat) (done rem : List Row) : List Nat := (List.range n).map fun p => rsum (fun r => decide (r.2.1 = p)) done + rsum (fun r => decide (r.1 = p)) rem
theorem Wt_len (n : Nat) (d r : List Row) : (Wt n d r).length = n := by unfold Wt; rw [List.length_map, List.length_range]
theorem rsum_cons (f : Row → Bool) (r : Row) (l : List Row) : rsum f (r :: l) = (if f r = true then r.2.2 else 0) + rsum f l := by
  unfold rsum
  rw [List.filter_cons]
  split
  · rw [List.map_cons, List.sum_cons]
  · omega
theorem Wt_rem {n : Nat} {d post : List Row} {r : Row} (h : r.1 < n) : Wt n d (r :: post) = addk (Wt n d post) r.1 r.2.2 := by
  refine ext_getD (by rw [addk_len, Wt_len, Wt_len]) fun i hi => ?_
  rw [Wt_len] at hi
  rw [addk_get (by rw [Wt_len]; exact h)]
  unfold Wt
  rw [getD_map_range hi, getD_map_range hi, rsum_cons]
  by_cases e : r.1 = i
  · rw [if_pos (by simpa using e), if_pos e.symm]; omega
  · rw [if_neg (by simpa using e), if_neg (Ne.symm e)]; omega
theorem Wt_done {n : Nat} {d post : List Row} {r : Row} (h : r.2.1 < n) : Wt n (d ++ [r]) post = addk (Wt n d post) r.2.1 r.2.2 := by
  refine ext_getD (by rw [addk_len, Wt_len, Wt_len]) fun i hi => ?_
  rw [Wt_len] at hi
  rw [addk_get (by rw [Wt_len]; exact h)]
  unfold Wt
  rw [getD_map_range hi, getD_map_range hi, rsum_append, rsum_cons]
  show _ + (_ + 0) + _ = _
  by_cases e : r.2.1 = i
  · rw [if_pos (by simpa using e), if_pos e.symm]; omega
  · rw [if_neg (by simpa using e), if_neg (Ne.symm e)]; omega
def trailR (o : List (List Nat)) (r : Row) : List (Nat × Nat) := (List.replicate r.2.2 (prs (climbOf o r.1 r.2.1))).flatten
def trail (o : List (List Nat)) (rows : List Row) : List (Nat × Nat) := rows.flatMap (trailR o)
theorem GT.rows (h : IsOrd o) : ∀ (rem done : List Row), (∀ r ∈ rem, r.1 < o.length ∧ r.2.1 < o.length ∧ (r.1 = r.2.1 ∨ r.2.1 ∈ above o r.1)) → GT o (Wt o.length done rem) (trail o rem) (Wt o.length (done ++ rem) [])
  | [], done, _ => by rw [List.append_nil]; exact .nil _
  | r :: rem, done, hr => by
    obtain ⟨r1, r2, r3⟩ := hr r List.mem_cons_self
    rw [Wt_rem r1]
    have c1 := GT.units h (climb_up h r1 r3).1 r1 r2 r.2.2 (Wt_len o.length done rem)
    rw [← Wt_done r2] at c1
    have c2 := GT.rows h rem (done ++ [r]) fun q hq => hr q (List.mem_cons_of_mem _ hq)
    rw [List.append_assoc] at c2
    unfold trail at c2 ⊢
    rw [List.flatMap_cons]
    exact c1.append c2
def wayOf (o : List (List Nat)) (a : List Nat) (rows : List Row) : List (List Nat) := (trail o rows).foldl addStep [a]
theorem way_gt (h : IsOrd o) {rows : List Row} (I : IsPl o a b rows) (ha : a.length = o.length) (hb : b.length = o.length) : GT o a (trail o rows) b := by
  have e1 : Wt o.length [] rows = a := ext_getD (by rw [Wt_len, ha]) fun i hi => by
    rw [Wt_len] at hi
    unfold Wt
    rw [getD_map_range hi, I.frm i hi]
    show 0 + _ = _
    omega
  have e2 : Wt o.length rows [] = b := ext_getD (by rw [Wt_len, hb]) fun i hi => by
    rw [Wt_len] at hi
    unfold Wt
    rw [getD_map_range hi, I.to i hi]
    rfl
  have := GT.rows h rows [] fun r hr => ⟨(I.ok r hr).1, (I.ok r hr).2.1, (I.ok r hr).2.2.2.2⟩
  rw [List.nil_append, e1, e2] at this
  exact this
theorem way_chn (h : IsOrd o) {rows : List Row} (I : IsPl o a b rows) (ha : a.length = o.length) (hb : b.length = o.length) : Chn o a (wayOf o a rows) b := (way_gt h I ha hb).chn .one
theorem rep_len {α : Type} (k : Nat) (l : List α) : (List.replicate k l).flatten.length = k * l.length := by
  induction k with
  | zero => simp
  | succ k ih => rw [List.replicate_succ, List.flatten_cons, List.length_append, ih, Nat.succ_mul]; omega
theorem prs_len (l : List Nat) : (prs l).length = l.length - 1 := by
  unfold prs
  rw [List.length_zip, List.length_drop]
  omega
theorem trail_len (h : IsOrd o) : ∀ {rows : List Row}, (∀ r ∈ rows, r.1 < o.length ∧ (r.1 = r.2.1 ∨ r.2.1 ∈ above o r.1)) → (trail o rows).length ≤ (rows.map fun r => r.2.2).sum * 6
  | [], _ => Nat.zero_le _
  | r :: rows, hr => by
    obtain ⟨r1, r2⟩ := hr r List.mem_cons_self
    have ih := trail_len h (rows := rows) fun q hq => hr q (List.mem_cons_of_mem _ hq)
    have hc := (climb_up h r1 r2).2
    unfold trail at ih ⊢
    rw [List.flatMap_cons, List.length_append, List.map_cons, List.sum_cons, Nat.add_mul]
    have e : (trailR o r).length ≤ r.2.2 * 6 := by
      unfold trailR
      rw [rep_len, prs_len]
      exact Nat.mul_le_mul_left _ (by omega)
    omega
theorem addStep_len : ∀ (T : List (Nat × Nat)) (l : List (List Nat)), (T.foldl addStep l).length = l.length + T.length
  | [], l => rfl
  | e :: T, l => by
    show (T.foldl addStep (addStep l e)).length = _
    rw [addStep_len T]
    unfold addStep
    rw [List.length_append, List.length_cons, List.length_cons, List.length_nil]
    omega
theorem addStep_snoc (T : List (Nat × Nat)) (e : Nat × Nat) (l : List (List Nat)) : (T ++ [e]).foldl addStep l = T.foldl addStep l ++ [stepN (lastW (T.foldl addStep l)) e.1 e.2] := by
  rw [List.foldl_append]; rfl
theorem Chn.pth {l : List (List Nat)} (c : Chn o a l b) : Pth o (l.length - 1) a b ∧ 1 ≤ l.length := by
  induction c with
  | one => exact ⟨.nil a, Nat.le_refl _⟩
  | snoc _ s ih =>
    refine ⟨?_, by rw [List.length_append]; exact Nat.le_add_left _ _⟩
    rename_i l b c _
    have e : (l ++ [c]).length - 1 = (l.length - 1) + 1 := by
      rw [List.length_append, List.length_singleton]
      have := ih.2
      omega
    rw [e]
    exact ih.1.snoc s
theorem reach_pth (h : IsOrd o) (ha : IsW o.length a) (hb : IsW o.length b) (hs : b.sum = a.sum) (np : NoPaper o a b) : ∃ k, Pth o k a b := ⟨_, (way_chn h (firstPlan_ok h ha hb hs np) ha.1 hb.1).pth.1⟩
end
end UP

/-! MJ: lists of weights without repeats; the next weights. -/
namespace UP
open PySem PySem.Spec L2
def addS (l : List (List Nat)) (k : List Nat) : List (List Nat) := if k ∈ l then l else l ++ [k]
def encS (l : List (List Nat)) : List (List Int × PyData) := l.map fun k => (castL k, PyData.bool true)
theorem anyS (k : List Nat) (l : List (List Nat)) : ((encS l).any fun e => decide (e.1 = castL k)) = true ↔ k ∈ l := by
  unfold encS
  rw [List.any_map, List.any_eq_true]
  constructor
  · rintro ⟨x, hx, h⟩
    have : castL x = castL k := by simpa using h
    rw [← castL_inj this]; exact hx
  · intro h
    exact ⟨k, h, by simp⟩
theorem putD_S (l : List (List Nat)) (k : List Nat) : putD (encS l) (castL k) (.bool true) = encS (addS l k) := by
  unfold putD addS
  by_cases h : k ∈ l
  · rw [if_pos ((anyS k l).mpr h), if_pos h]
    unfold encS
    rw [List.map_map]
    refine List.map_congr_left fun x _ => ?_
    show (if castL x = castL k then (castL x, PyData.bool true) else (castL x, PyData.bool true)) = _
    split <;> rfl
  · rw [if_neg fun z => h ((anyS k l).mp z), if_neg h]
    unfold encS
    rw [List.map_append]; rfl
theorem mem_addS {l : List (List Nat)} {k x : List Nat} : x ∈ addS l k ↔ x ∈ l ∨ x = k := by
  unfold addS
  split
  · rename_i h
    constructor
    · exact .inl
    · rintro (z | z)
      · exact z
      · rw [z]; exact h
  · rw [List.mem_append, List.mem_singleton]
theorem nd_addS {l : List (List Nat)} {k : List Nat} (h : l.Nodup) : (addS l k).Nodup := by
  unfold addS
  split
  · exact h
  · rename_i z
    refine List.nodup_append.mpr ⟨h, List.nodup_cons.mpr ⟨by simp, List.nodup_nil⟩, fun a ha b hb e => ?_⟩
    rw [List.mem_singleton.mp hb] at e
    subst e
    exact z ha
theorem foldS_ok : ∀ (l m : List (List Nat)), m.Nodup → (l.foldl addS m).Nodup ∧ ∀ x, x ∈ l.foldl addS m ↔ x ∈ m ∨ x ∈ l
  | [], m, h => ⟨h, fun x => by simp⟩
  | k :: l, m, h => by
    obtain ⟨h1, h2⟩ := foldS_ok l (addS m k) (nd_addS h)
    refine ⟨h1, fun x => ?_⟩
    show x ∈ l.foldl addS (addS m k) ↔ _
    rw [h2 x, mem_addS, List.mem_cons]
    constructor
    · rintro ((z | z) | z)
      · exact .inl z
      · exact .inr (.inl z)
      · exact .inr (.inr z)
    · rintro (z | z | z)
      · exact .inl (.inl z)
      · exact .inl (.inr z)
      · exact .inr z
theorem foldS_len : ∀ (l m : List (List Nat)), (l.foldl addS m).length ≤ m.length + l.length
  | [], m => Nat.le_refl _
  | k :: l, m => by
    have h1 := foldS_len l (addS m k)
    have h2 : (addS m k).length ≤ m.length + 1 := by
      unfold addS
      split
      · omega
      · rw [List.length_append]; exact Nat.le_refl _
    rw [List.length_cons]
    show (l.foldl addS (addS m k)).length ≤ _
    omega
def dedup (l : List (List Nat)) : List (List Nat) := l.foldl addS []
theorem dedup_nd (l : List (List Nat)) : (dedup l).Nodup := (foldS_ok l [] List.nodup_nil).1
theorem mem_dedup {l : List (List Nat)} {x : List Nat} : x ∈ dedup l ↔ x ∈ l := by
  unfold dedup
  rw [(foldS_ok l [] List.nodup_nil).2 x]
  simp
theorem dedup_len (l : List (List Nat)) : (dedup l).length ≤ l.length := by
  have := foldS_len l []
  rw [List.length_nil, Nat.zero_add] at this
  exact this
theorem dedup_snoc (l : List (List Nat)) (k : List Nat) : dedup (l ++ [k]) = addS (dedup l) k := by
  unfold dedup
  rw [List.foldl_append]; rfl
theorem sort_encS (l : List (List Nat)) : (sortT ((encS l).map (·.1))).map encI = (sortN l).map encR := by
  have e : (encS l).map (·.1) = l.map castL := by unfold encS; rw [List.map_map]; rfl
  rw [e, sortN_cast, mapI_cast]
/-! ### the next weights -/
def nextAt (o : List (List Nat)) (v : List Nat) (p : Nat) : List (List Nat) := if 0 < v.getD p 0 then (nextAbove o p).map (stepN v p) else []
def rawTo (o : List (List Nat)) (v : List Nat) (i : Nat) : List (List Nat) := (List.range i).flatMap (nextAt o v)
theorem raw_succ (o : List (List Nat)) (v : List Nat) (i : Nat) : rawTo o v (i + 1) = rawTo o v i ++ nextAt o v i := by
  unfold rawTo
  rw [List.range_succ, List.flatMap_append, List.flatMap_cons, List.flatMap_nil, List.append_nil]
def nextW (o : List (List Nat)) (v : List Nat) : List (List Nat) := sortN (dedup (rawTo o v v.length))
theorem mem_raw {o : List (List Nat)} {v w : List Nat} {i : Nat} : w ∈ rawTo o v i ↔ ∃ p g, p < i ∧ 0 < v.getD p 0 ∧ g ∈ nextAbove o p ∧ w = stepN v p g := by
  unfold rawTo
  rw [List.mem_flatMap]
  constructor
  · rintro ⟨p, hp, h⟩
    unfold nextAt at h
    split at h
    · rename_i h0
      obtain ⟨g, hg, rfl⟩ := List.mem_map.mp h
      exact ⟨p, g, List.mem_range.mp hp, h0, hg, rfl⟩
    · cases h
  · rintro ⟨p, g, hp, h0, hg, rfl⟩
    refine ⟨p, List.mem_range.mpr hp, ?_⟩
    unfold nextAt
    rw [if_pos h0]
    exact List.mem_map.mpr ⟨g, hg, rfl⟩
theorem mem_nextW {o : List (List Nat)} {v w : List Nat} (hv : v.length = o.length) : w ∈ nextW o v ↔ St o v w := by
  unfold nextW
  rw [mem_sortN, mem_dedup, mem_raw, hv]
  exact Iff.rfl
theorem next_len {o : List (List Nat)} (h : IsOrd o) {p : Nat} (hp : p < o.length) : (nextAbove o p).length ≤ 6 := Nat.le_trans (filt_len _ _) (h.rowz hp)
theorem nextAt_len {o : List (List Nat)} {v : List Nat} (h : IsOrd o) {p : Nat} (hp : p < o.length) : (nextAt o v p).length ≤ 6 := by
  unfold nextAt
  split
  · rw [List.length_map]; exact next_len h hp
  · exact Nat.zero_le _
theorem raw_len {o : List (List Nat)} {v : List Nat} (h : IsOrd o) {i : Nat} (hi : i ≤ o.length) : (rawTo o v i).length ≤ 36 := by
  have := flatMap_len (nextAt o v) 6 (List.range i) fun p hp => nextAt_len h (by have := List.mem_range.mp hp; omega)
  rw [List.length_range] at this
  have h6 := h.most
  unfold rawTo
  omega
theorem nextW_len {o : List (List Nat)} {v : List Nat} (h : IsOrd o) (hv : v.length = o.length) : (nextW o v).length ≤ 36 := by
  unfold nextW
  rw [(sortN_perm _).length_eq]
  exact Nat.le_trans (dedup_len _) (raw_len h (by omega))
theorem map_set {α β : Type} (f : α → β) (l : List α) (i : Nat) (x : α) : (l.map f).set i (f x) = (l.set i x).map f := (List.map_set ..).symm
theorem step_set {v : List Nat} {s g : Nat} (hs : s < v.length) (hg : g < v.length) : (v.set s (v.getD s 0 - 1)).set g ((v.set s (v.getD s 0 - 1)).getD g 0 + 1) = stepN v s g := by
  refine ext_getD (by rw [List.length_set, List.length_set, stepN_len]) fun i hi => ?_
  rw [List.length_set, List.length_set] at hi
  rw [getD_set _ _ _ _ (by rw [List.length_set]; exact hg), getD_set _ _ _ _ hs, getD_set _ _ _ _ hs, stepN_get hi]
  by_cases e1 : i = g
  · subst e1
    by_cases e2 : i = s
    · subst e2; simp
    · simp [e2]
  · by_cases e2 : i = s
    · subst e2; simp [e1]
    · simp [e1, e2]
/-! ### ways -/
def IsWay (o : List (List Nat)) (a b : List Nat) (ws : List (List Nat)) : Prop := ws ≠ [] ∧ ws.getD 0 [] = a ∧ lastW ws = b ∧ ∀ i, i + 1 < ws.length → St o (ws.getD i []) (ws.getD (i + 1) [])
def IsWayD (o : List (List Nat)) (a b : List Nat) (d : PyData) : Prop := ∃ ws, d = .list (ws.map encR) ∧ (∀ v ∈ ws, IsW o.length v) ∧ IsWay o a b ws
theorem getW_some {ws : List (List Nat)} {i : Nat} (h : i < ws.length) : ws[i]? = some (ws.getD i []) := by rw [List.getD_eq_getElem?_getD, List.getElem?_eq_getElem h]; rfl
theorem zip_idx {R : List Nat → List Nat → Prop} {ws : List (List Nat)} : (∀ q ∈ ws.zip (ws.drop 1), R q.1 q.2) ↔ ∀ i, i + 1 < ws.length → R (ws.getD i []) (ws.getD (i + 1) []) := by
  have get : ∀ i, i + 1 < ws.length → (ws.zip (ws.drop 1))[i]? = some (ws.getD i [], ws.getD (i + 1) []) := fun i hi => by
    rw [List.getElem?_zip_eq_some]
    refine ⟨getW_some (by omega), ?_⟩
    rw [List.getElem?_drop, Nat.add_comm 1 i]
    exact getW_some hi
  constructor
  · intro h i hi
    exact h _ (List.mem_of_getElem? (get i hi))
  · intro h q hq
    obtain ⟨i, hi⟩ := List.mem_iff_getElem?.mp hq
    have hl := (List.getElem?_eq_some_iff.mp hi).1
    rw [List.length_zip, List.length_drop] at hl
    have h1 : i + 1 < ws.length := by omega
    rw [get i h1] at hi
    cases hi
    exact h i h1
theorem lastW_get {ws : List (List Nat)} (h : ws ≠ []) : lastW ws = ws.getD (ws.length - 1) [] := by
  unfold lastW
  rw [List.getLast?_eq_getElem?, List.getD_eq_getElem?_getD]
theorem getD_app1 {l : List (List Nat)} {c : List Nat} {i : Nat} (h : i < l.length) : (l ++ [c]).getD i [] = l.getD i [] := by
  rw [List.getD_eq_getElem?_getD, List.getD_eq_getElem?_getD, List.getElem?_append_left h]
theorem getD_app2 {l : List (List Nat)} {c : List Nat} : (l ++ [c]).getD l.length [] = c := by
  rw [List.getD_eq_getElem?_getD, List.getElem?_append_right (Nat.le_refl _), Nat.sub_self]; rfl
theorem Chn.way {o : List (List Nat)} {a b : List Nat} {ws : List (List Nat)} (c : Chn o a ws b) : IsWay o a b ws := by
  induction c with
  | one => exact ⟨by simp, rfl, rfl, fun i hi => by simp at hi⟩
  | snoc c s ih =>
    rename_i l b d
    obtain ⟨h1, h2, h3, h4⟩ := ih
    have hl : 0 < l.length := List.length_pos_iff.mpr h1
    refine ⟨by simp, by rw [getD_app1 hl]; exact h2, ?_, fun i hi => ?_⟩
    · unfold lastW
      rw [List.getLast?_append]; rfl
    · rw [List.length_append, List.length_singleton] at hi
      by_cases z : i + 1 < l.length
      · rw [getD_app1 (by omega), getD_app1 z]
        exact h4 i z
      · have e : i + 1 = l.length := by omega
        rw [e, getD_app2, getD_app1 (by omega)]
        rw [lastW_get h1, ← e, Nat.add_sub_cancel] at h3
        rw [h3]
        exact s
theorem IsWay.pths {o : List (List Nat)} {a b : List Nat} {ws : List (List Nat)} (h : IsWay o a b ws) : ∀ i j, i + j < ws.length → Pth o j (ws.getD i []) (ws.getD (i + j) [])
  | i, 0, _ => .nil _
  | i, j + 1, hj => (IsWay.pths h i j (by omega)).snoc (h.2.2.2 (i + j) (by omega))
theorem IsWay.pth {o : List (List Nat)} {a b : List Nat} {ws : List (List Nat)} (h : IsWay o a b ws) : Pth o (ws.length - 1) a b := by
  have hl : 0 < ws.length := List.length_pos_iff.mpr h.1
  have := h.pths 0 (ws.length - 1) (by omega)
  rw [h.2.1, Nat.zero_add, ← lastW_get h.1, h.2.2.1] at this
  exact this
theorem Chn.weights {o : List (List Nat)} {a b : List Nat} {ws : List (List Nat)} (h : IsOrd o) (ha : IsW o.length a) (c : Chn o a ws b) : ∀ v ∈ ws, IsW o.length v ∧ v.sum = a.sum := by
  have main : (∀ v ∈ ws, IsW o.length v ∧ v.sum = a.sum) ∧ (IsW o.length b ∧ b.sum = a.sum) := by
    induction c with
    | one => exact ⟨fun v hv => by rw [List.mem_singleton.mp hv]; exact ⟨ha, rfl⟩, ha, rfl⟩
    | snoc c s ih =>
      rename_i l b d
      obtain ⟨i1, i2, i3⟩ := ih
      obtain ⟨_, s2, s3⟩ := s.ok h i2.1
      have hd : IsW o.length d ∧ d.sum = a.sum := ⟨⟨s2, by rw [s3]; exact i2.2⟩, s3.trans i3⟩
      exact ⟨fun v hv => by
        rcases List.mem_append.mp hv with z | z
        · exact i1 v z
        · rw [List.mem_singleton.mp z]; exact hd, hd⟩
  exact main.1
end UP

/-! MK: list.count; levels of steps, the fewest steps. -/
namespace UP
open PySem PySem.Spec L2
section
variable {X : Cx} {B : Bs} {ρ : DEnv} {o e : Expr} {pos apos : Pos}
theorem ev_count {ns : List Int} {k : Int} (ho : EVo X B ρ o (.list (ns.map PyData.int))) (he : EV X B ρ e (.int k)) (hbase : attributeBase o "count" X.env (eval o X.env) = eval o X.env := by rfl)
    (hfew : ((backTo pos (starEach [e] X.env)).all (fun x => !x.1) && (backToKw pos (keywordEach [] X.env)).all (fun x => x.1.isSome) && decide (([e] : List Expr).length + ([] : List Keyword).length + (if ([] : List Keyword).isEmpty then 0 else 1) < 30)) = true := by rfl)
    (hline : (apos.endLine == pos.line) = true := by rfl) (hst : starEach [e] X.env = [(false, eval e X.env)] := by rfl) (hpl : (backTo pos (starEach [] X.env)).any (·.1) = false := by rfl) :
    EV X B ρ (.Call (.Attribute o "count" apos) [e] [] pos) (.int (ns.count k : Nat)) := by
  refine PE.imp (pe_bm PySem.F.plainAttrs_list PySem.F.slot_list_count PySem.F.type_list_count mt_lcount ho (pa_cons he pa_nil hst) hbase hfew hline hst hpl) fun σ H Q ⟨G, en, q⟩ => ⟨G, en, fun v H1 G1 g1 p1 => ?_⟩
  obtain ⟨a, vs, rfl, h1, z1, d1⟩ := DqO.list g1.sub p1
  refine ⟨.inl ⟨rfl, _, .inl (.inl h1)⟩, G1, en.grow g1, fun w H2 G2 g2 p2 => ?_⟩
  cases p2
  have e := DqAll.ints d1
  rw [e] at h1
  exact ⟨a, ns, k, rfl, rfl, SqL.of (g2.hh _ _ h1), q _ H2 G2 (g1.trans g2) (.int _)⟩
theorem count_castN (r : List Nat) (k : Nat) : (r.map fun n : Nat => (n : Int)).count (k : Int) = r.count k := by
  induction r with
  | nil => rfl
  | cons x r ih =>
    rw [List.map_cons, List.count_cons, List.count_cons, ih]
    congr 1
    by_cases h : x = k
    · subst h; simp
    · have h' : ¬ (x : Int) = (k : Int) := by omega
      simp [h, h']
theorem ev_countN {r : List Nat} {k : Nat} (ho : EVo X B ρ o (.list (r.map encN))) (he : EV X B ρ e (encN k)) (hbase : attributeBase o "count" X.env (eval o X.env) = eval o X.env := by rfl)
    (hfew : ((backTo pos (starEach [e] X.env)).all (fun x => !x.1) && (backToKw pos (keywordEach [] X.env)).all (fun x => x.1.isSome) && decide (([e] : List Expr).length + ([] : List Keyword).length + (if ([] : List Keyword).isEmpty then 0 else 1) < 30)) = true := by rfl)
    (hline : (apos.endLine == pos.line) = true := by rfl) (hst : starEach [e] X.env = [(false, eval e X.env)] := by rfl) (hpl : (backTo pos (starEach [] X.env)).any (·.1) = false := by rfl) :
    EV X B ρ (.Call (.Attribute o "count" apos) [e] [] pos) (encN (r.count k)) := by
  rw [mapN] at ho
  exact EV.to (ev_count ho he hbase hfew hline hst hpl) (by rw [count_castN])
end
/-! ### how many different weights there are -/
def code : List Nat → Nat
  | [] => 0
  | x :: r => x + 10 * code r
theorem code_lt : ∀ {v : List Nat}, (∀ x ∈ v, x ≤ 9) → code v < 10 ^ v.length
  | [], _ => by show 0 < 1; decide
  | x :: r, h => by
    have ih := code_lt (v := r) fun y hy => h y (List.mem_cons_of_mem _ hy)
    have hx := h x List.mem_cons_self
    rw [List.length_cons, Nat.pow_succ]
    show x + 10 * code r < _
    omega
theorem code_inj : ∀ {v w : List Nat}, v.length = w.length → (∀ x ∈ v, x ≤ 9) → (∀ x ∈ w, x ≤ 9) → code v = code w → v = w
  | [], [], _, _, _, _ => rfl
  | x :: r, y :: s, hl, h1, h2, e => by
    have hx := h1 x List.mem_cons_self
    have hy := h2 y List.mem_cons_self
    have e : x + 10 * code r = y + 10 * code s := e
    have exy : x = y := by omega
    have ers : code r = code s := by omega
    rw [exy, code_inj (by simpa using hl) (fun z hz => h1 z (List.mem_cons_of_mem _ hz)) (fun z hz => h2 z (List.mem_cons_of_mem _ hz)) ers]
theorem nd_weights {n : Nat} {l : List (List Nat)} (nd : l.Nodup) (h : ∀ v ∈ l, IsW n v) : l.length ≤ 10 ^ n := by
  have dig : ∀ v ∈ l, ∀ x ∈ v, x ≤ 9 := fun v hv x hx => Nat.le_trans (le_sum hx) (h v hv).2
  have nd2 : (l.map code).Nodup := by
    refine List.pairwise_map.mpr (nd.imp_of_mem fun {a b} ha hb hne e => hne ?_)
    exact code_inj ((h a ha).1.trans (h b hb).1.symm) (dig a ha) (dig b hb) e
  have := nodup_len nd2 (n := 10 ^ n) fun x hx => by
    obtain ⟨v, hv, rfl⟩ := List.mem_map.mp hx
    have := code_lt (dig v hv)
    rw [(h v hv).1] at this
    exact this
  rw [List.length_map] at this
  exact this
theorem nd_small {n : Nat} {l : List (List Nat)} (hn : n ≤ 6) (nd : l.Nodup) (h : ∀ v ∈ l, IsW n v) : l.length ≤ 1000000 := Nat.le_trans (nd_weights nd h) (Nat.pow_le_pow_right (by decide) hn)
theorem big_lt {n : Nat} (h : n ≤ 1000000) : n < sizeLine := Nat.lt_of_le_of_lt h (by decide)
/-! ### levels -/
def levRaw (o : List (List Nat)) (b : List Nat) (l : List (List Nat)) : List (List Nat) := l.flatMap fun h => (nextW o h).filter fun m => (paperOf o m b).isNone
def lev (o : List (List Nat)) (a b : List Nat) : Nat → List (List Nat)
  | 0 => [a]
  | k + 1 => sortN (dedup (levRaw o b (lev o a b k)))
def Least (o : List (List Nat)) (a b : List Nat) (k : Nat) : Prop := Pth o k a b ∧ ∀ j, j < k → ¬ Pth o j a b
section
variable {o : List (List Nat)} {a b w : List Nat}
theorem sort_nd {l : List (List Nat)} (h : l.Nodup) : (sortN l).Nodup := (sortN_perm l).nodup_iff.mpr h
theorem lev_nd : ∀ k, (lev o a b k).Nodup
  | 0 => List.nodup_cons.mpr ⟨by simp, List.nodup_nil⟩
  | k + 1 => sort_nd (dedup_nd _)
theorem mem_levRaw {l : List (List Nat)} (hl : ∀ v ∈ l, v.length = o.length) : w ∈ levRaw o b l ↔ ∃ v ∈ l, St o v w ∧ NoPaper o w b := by
  unfold levRaw
  rw [List.mem_flatMap]
  constructor
  · rintro ⟨v, hv, h⟩
    obtain ⟨h1, h2⟩ := List.mem_filter.mp h
    exact ⟨v, hv, (mem_nextW (hl v hv)).mp h1, pn_iff.mp h2⟩
  · rintro ⟨v, hv, h1, h2⟩
    exact ⟨v, hv, List.mem_filter.mpr ⟨(mem_nextW (hl v hv)).mpr h1, pn_iff.mpr h2⟩⟩
theorem mem_lev (h : IsOrd o) (ha : a.length = o.length) (np : NoPaper o a b) : ∀ (k : Nat) (w : List Nat), w ∈ lev o a b k ↔ Pth o k a w ∧ NoPaper o w b
  | 0, w => by
    show w ∈ [a] ↔ _
    rw [List.mem_singleton]
    constructor
    · rintro rfl; exact ⟨.nil _, np⟩
    · rintro ⟨t, _⟩; cases t; rfl
  | k + 1, w => by
    have ih := mem_lev h ha np k
    show w ∈ sortN (dedup (levRaw o b (lev o a b k))) ↔ _
    rw [mem_sortN, mem_dedup, mem_levRaw fun v hv => ((ih v).mp hv).1.ok h ha |>.2.1]
    constructor
    · rintro ⟨v, hv, s, q⟩
      exact ⟨((ih v).mp hv).1.snoc s, q⟩
    · rintro ⟨t, q⟩
      obtain ⟨u, h1, h2⟩ := t.last
      have ul := (h1.ok h ha).2.1
      exact ⟨u, (ih u).mpr ⟨h1, noPaper_trans (h2.ok h ul).1 q⟩, h2, q⟩
theorem lev_w (h : IsOrd o) (ha : IsW o.length a) (np : NoPaper o a b) {k : Nat} : ∀ v ∈ lev o a b k, IsW o.length v ∧ v.sum = a.sum := fun v hv => by
  obtain ⟨_, h2, h3⟩ := ((mem_lev h ha.1 np k v).mp hv).1.ok h ha.1
  exact ⟨⟨h2, by rw [h3]; exact ha.2⟩, h3⟩
theorem least_ex {P : Nat → Prop} (h : ∃ k, P k) : ∃ k, P k ∧ ∀ j, j < k → ¬ P j := by
  obtain ⟨k, hk⟩ := h
  induction k using Nat.strongRecOn with
  | _ k ih =>
    by_cases z : ∃ j, j < k ∧ P j
    · obtain ⟨j, hj, pj⟩ := z
      exact ih j hj pj
    · exact ⟨k, hk, fun j hj pj => z ⟨j, hj, pj⟩⟩
theorem least_of (h : IsOrd o) (ha : IsW o.length a) (hb : IsW o.length b) (hs : b.sum = a.sum) (np : NoPaper o a b) : ∃ k, Least o a b k := least_ex (reach_pth h ha hb hs np)
theorem Least.uniq {j k : Nat} (h1 : Least o a b j) (h2 : Least o a b k) : j = k := by
  rcases Nat.lt_trichotomy j k with z | z | z
  · exact absurd h1.1 (h2.2 j z)
  · exact z
  · exact absurd h2.1 (h1.2 k z)
theorem Least.le {j k : Nat} (h1 : Least o a b k) (h2 : Pth o j a b) : k ≤ j := Classical.byContradiction fun z => h1.2 j (by omega) h2
open Classical in
noncomputable def dist (o : List (List Nat)) (a b : List Nat) : Nat := if h : ∃ k, Least o a b k then h.choose else 0
theorem dist_least (h : ∃ k, Least o a b k) : Least o a b (dist o a b) := by
  unfold dist
  rw [dif_pos h]
  exact h.choose_spec
end
end UP

/-! ML: moves of k19, weights by counting, moves there and back. -/
namespace UP
open PySem PySem.Spec L2
def stepG (D : Nat → Nat) (k : Nat) (o : List (List Nat)) (v : List Nat) (t : Nat) : List Nat :=
  if freeOf o v = [] then v else
    let p := (freeOf o v).getD (D (1 + t) % (freeOf o v).length) 0
    stepN v p ((above o p).getD (D (k + t) % (above o p).length) 0)
def goG (D : Nat → Nat) (k : Nat) (o : List (List Nat)) (v : List Nat) : Nat → List Nat
  | 0 => v
  | t + 1 => stepG D k o (goG D k o v t) t
section
variable {o : List (List Nat)} {v a b : List Nat} {D : Nat → Nat} {k : Nat}
theorem stepG_ok (h : IsOrd o) (hv : v.length = o.length) (t : Nat) : (stepG D k o v t).length = o.length ∧ (stepG D k o v t).sum = v.sum ∧ NoPaper o v (stepG D k o v t) := by
  unfold stepG
  split
  · exact ⟨hv, rfl, noPaper_refl⟩
  · rename_i hf
    have fl : 0 < (freeOf o v).length := List.length_pos_iff.mpr hf
    obtain ⟨p1, p2, p3⟩ := free_mem (getD_mem (Nat.mod_lt (D (1 + t)) fl))
    have al : 0 < (above o ((freeOf o v).getD (D (1 + t) % (freeOf o v).length) 0)).length := List.length_pos_iff.mpr p3
    have hg := getD_mem (Nat.mod_lt (D (k + t)) al)
    have gl := (h.ris p1).2 _ hg
    exact ⟨by rw [stepN_len]; exact hv, stepN_sum (by omega) (by omega) p2, noPaper_step h hv p1 hg p2⟩
theorem goG_ok (h : IsOrd o) (hv : v.length = o.length) : ∀ t, (goG D k o v t).length = o.length ∧ (goG D k o v t).sum = v.sum ∧ NoPaper o v (goG D k o v t)
  | 0 => ⟨hv, rfl, noPaper_refl⟩
  | t + 1 => by
    obtain ⟨a1, a2, a3⟩ := goG_ok h hv t
    obtain ⟨b1, b2, b3⟩ := stepG_ok (D := D) (k := k) h a1 t
    exact ⟨b1, b2.trans a2, noPaper_trans a3 b3⟩
/-! there and back -/
theorem above_closed (h : IsOrd o) {p : Nat} (hp : p < o.length) : above o p ∈ closedSets o := mem_closed.mpr ⟨h.ris hp, clo_iff.mpr fun q hq m hm => h.trA hp hq m hm⟩
theorem held_up (h : IsOrd o) {p : Nat} (hp : p < o.length) : held v (upset o p) = held v (above o p) + v.getD p 0 := by
  rw [held_fsum (mem_closed.mp (upset_closed h hp)).1, held_fsum (h.ris hp), ← fsum_single (n := o.length) (v.getD p 0) hp, ← fsum_add]
  refine fsum_congr fun i hi => ?_
  by_cases e : i = p
  · subst e
    rw [if_pos ((mem_upset h hp).mpr (.inr rfl)), if_neg (h.irrA hp), if_pos rfl]; omega
  · rw [if_neg e]
    by_cases z : i ∈ above o p
    · rw [if_pos ((mem_upset h hp).mpr (.inl z)), if_pos z]; rfl
    · rw [if_neg (fun q => ((mem_upset h hp).mp q).elim z e), if_neg z]
theorem noPaper_antisymm (h : IsOrd o) (ha : a.length = o.length) (hb : b.length = o.length) (h1 : NoPaper o a b) (h2 : NoPaper o b a) : a = b := by
  refine ext_getD (ha.trans hb.symm) fun i hi => ?_
  have hi' : i < o.length := by omega
  have e1 := h1 _ (upset_closed h hi')
  have e2 := h2 _ (upset_closed h hi')
  have e3 := h1 _ (above_closed h hi')
  have e4 := h2 _ (above_closed h hi')
  have e5 := held_up (v := a) h hi'
  have e6 := held_up (v := b) h hi'
  omega
end
/-! weights by counting -/
def cntW (n : Nat) (l : List Nat) : List Nat := (List.range n).map fun p => l.count p
theorem cntW_len (n : Nat) (l : List Nat) : (cntW n l).length = n := by unfold cntW; rw [List.length_map, List.length_range]
theorem cntW_sum {n : Nat} : ∀ {l : List Nat}, (∀ x ∈ l, x < n) → (cntW n l).sum = l.length
  | [], _ => by
    show fsum (fun p => ([] : List Nat).count p) n = 0
    rw [show (fun p => ([] : List Nat).count p) = fun _ => 0 from rfl]
    exact fsum_zero n
  | x :: l, h => by
    have ih := cntW_sum (n := n) (l := l) fun y hy => h y (List.mem_cons_of_mem _ hy)
    rw [List.length_cons, ← ih, ← fsum_single (n := n) 1 (h x List.mem_cons_self)]
    show fsum (fun p => (x :: l).count p) n = fsum (fun p => l.count p) n + _
    rw [← fsum_add]
    refine fsum_congr fun i _ => ?_
    rw [List.count_cons]
    by_cases e : x = i
    · subst e; simp
    · have e' : ¬ i = x := fun z => e z.symm
      simp [e, e']
end UP

/-! MM: sorted(set(..)) of weights, the list of any length, few of them different. -/
namespace UP
open PySem PySem.Spec PyProof.Rows L2
theorem code_bd {B : Int} (hB : 0 < B) : ∀ {x : List Int}, TS.Bd B x → 0 ≤ TS.code B x ∧ TS.code B x < B ^ x.length
  | [], _ => by
    simp [TS.code]
  | d :: r, h => by
    obtain ⟨i1, i2⟩ := code_bd hB (x := r) fun m hm => h m (List.mem_cons_of_mem _ hm)
    obtain ⟨d1, d2⟩ := h d List.mem_cons_self
    show (0 : Int) ≤ d * B ^ r.length + TS.code B r ∧ d * B ^ r.length + TS.code B r < B ^ (r.length + 1)
    have hp : (0 : Int) < B ^ r.length := by
      rcases Int.lt_or_le 0 (B ^ r.length) with z | z
      · exact z
      · omega
    have m1 : 0 ≤ d * B ^ r.length := Int.mul_nonneg d1 (Int.le_of_lt hp)
    have m2 : (d + 1) * B ^ r.length ≤ B * B ^ r.length := Int.mul_le_mul_of_nonneg_right (by omega) (Int.le_of_lt hp)
    rw [Int.add_mul, Int.one_mul] at m2
    rw [Int.pow_succ, Int.mul_comm (B ^ r.length) B]
    omega
theorem code_lexlt {B : Int} (hB : 0 < B) : ∀ {x y : List Int}, x.length = y.length → TS.Bd B x → TS.Bd B y → HT.lexLt x y = true → TS.code B x < TS.code B y
  | [], [], _, _, _, h => by cases h
  | a :: x, b :: y, hl, hx, hy, h => by
    have hl' : x.length = y.length := by simpa using hl
    have bx : TS.Bd B x := fun m hm => hx m (List.mem_cons_of_mem _ hm)
    have b_y : TS.Bd B y := fun m hm => hy m (List.mem_cons_of_mem _ hm)
    rw [HT.lexLt_cons] at h
    show a * B ^ x.length + TS.code B x < b * B ^ y.length + TS.code B y
    rw [hl']
    by_cases e : a = b
    · rw [if_pos e] at h
      have := code_lexlt hB hl' bx b_y h
      rw [e]
      omega
    · rw [if_neg e] at h
      have hab : a < b := by simpa using h
      obtain ⟨x1, x2⟩ := code_bd hB bx
      obtain ⟨y1, y2⟩ := code_bd hB b_y
      rw [hl'] at x2
      have m2 : (a + 1) * B ^ y.length ≤ b * B ^ y.length := Int.mul_le_mul_of_nonneg_right (by omega) (by omega)
      rw [Int.add_mul, Int.one_mul] at m2
      omega
theorem code_le_lex {B : Int} (hB : 0 < B) {x y : List Int} (hl : x.length = y.length) (hx : TS.Bd B x) (hy : TS.Bd B y) (h : TS.code B x ≤ TS.code B y) : HT.lexLt y x = false := by
  rw [← Bool.not_eq_true]
  intro z
  have := code_lexlt hB hl.symm hy hx z
  omega
section
variable {P : Program} {w : World} {A : Around} {E : Value → Shared → Prop} {s : Shared}
/-- no more than so many different ones -/
def Fewd (ks : List (Addr × List Int)) : Prop := ∀ l : List (List Int), l.Nodup → (∀ k ∈ l, k ∈ ks.map (·.2)) → l.length < 63
structure GotD (ks : List (Addr × List Int)) (i : Nat) (L : List (Addr × List Int)) : Prop where
  sub : ∀ p ∈ L, p ∈ ks
  all : ∀ p ∈ ks.take i, p.2 ∈ L.map (·.2)
theorem update_tupsD {I : Addr} {fp wr : List Addr} {Gn : Array GenState → Array GenState → Prop} {n : Nat} {Pv : Nat → Value → Prop} {Si : Nat → Shared → Prop} {R : Result → Shared → Prop} (W : WalksS P w A.in1 I fp wr Gn n Pv Si) (S : Addr) (hSf : S ∉ fp) (ks : List (Addr × List Int)) (hn : n = ks.length) (fd : Fewd ks)
    (hval : ∀ i v, Pv i v → ∃ p, ks[i]? = some p ∧ v = .ref p.1) (h0 : Heap) (hk : ∀ p ∈ ks, IsT P w h0 p.2 p.1) (hS0 : h0.get? S = none) (hw0 : ∀ b ∈ wr, h0.get? b = none) (hu : A.in1.units < cLine) : ∀ (k i : Nat) (s : Shared), n - i = k → i ≤ n → Si i s → (∀ b o, h0.get? b = some o → s.heap.get? b = some o) →
      (∃ L es ep t, SetTR P w s.heap S L es ep t ∧ GotD ks i L) → (∀ s' L es ep t, Moved (S :: wr) Gn s s' → SetTR P w s'.heap S L es ep t → GotD ks n L → (∀ b o, h0.get? b = some o → s'.heap.get? b = some o) → R (.ok (.ret .none)) s') → codeAny (model P w) A (.builtin "set.update.loop" ⟨[.ref S, .ref I], []⟩) R s := by
  have nw : S ∉ wr := fun h => hSf (W.sub _ h)
  have kpM : ∀ {s s' : Shared}, Moved wr Gn s s' → (∀ b o, h0.get? b = some o → s.heap.get? b = some o) → ∀ b o, h0.get? b = some o → s'.heap.get? b = some o := fun hm hkp b o e => hm.heap b o (fun hb => nomatch ((hw0 b hb).symm.trans e)) (hkp b o e)
  intro k
  induction k with
  | zero =>
    rintro i s hk' hi hst hkp ⟨L, es, ep, t, hS, g⟩ hR
    obtain rfl : i = n := by omega
    refine codeAny_builtin F.entry_set_update_loop ?_
    rw [Around.under_plainId F.plain_set_update_loop _]
    refine wpAny_bind (m := pyNext (.ref I)) (W.done s _ _ hst fun s' hm => ?_)
    have kp2 := kpM hm hkp
    exact wpAny_pure (hR s' L es ep t (hm.mono fun b hb => List.mem_cons_of_mem _ hb) (hS.keep (fun o e => hm.heap S o nw e) fun p hp => isT_keep (hk p (g.sub p hp)) kp2) g kp2)
  | succ k ih =>
    rintro i s hk' hi hst hkp ⟨L, es, ep, t, hS, g⟩ hR
    have hlt : i < n := by omega
    refine codeAny_builtin F.entry_set_update_loop ?_
    rw [Around.under_plainId F.plain_set_update_loop _]
    refine wpAny_bind (m := pyNext (.ref I)) (W.item i s _ _ hlt hst fun v s' hP hst' hm => ?_)
    obtain ⟨p, hp, rfl⟩ := hval i v hP
    have kp2 := kpM hm hkp
    have hS' : SetTR P w s'.heap S L es ep t := hS.keep (fun o e => hm.heap S o nw e) fun q hq => isT_keep (hk q (g.sub q hq)) kp2
    have hx : IsT P w s'.heap p.2 p.1 := isT_keep (hk p (List.mem_of_getElem? hp)) kp2
    refine wpAny_bind (m := holding [Value.ref p.1] (setAdd S (.ref p.1))) (wpAny_holding ?_)
    unfold setAdd
    have few : L.length + 1 < 64 := by
      have := fd (L.map (·.2)) hS.nd fun k hk => by
        obtain ⟨q, hq, rfl⟩ := List.mem_map.mp hk
        exact List.mem_map.mpr ⟨q, g.sub q hq, rfl⟩
      rw [List.length_map] at this
      omega
    refine wpAny_holding (wpAny_bind (wpAny_pyHash_tuple hu hx (add_at (s := { s' with toks := s'.toks + (p.2.length + 1) }) hS' hx hu few fun b h' L' es' ep' t' hsb hS2 c1 c2 => ?_)))
    have g' : GotD ks (i + 1) L' := by
      refine ⟨fun q hq => ?_, fun q hq => ?_⟩
      · by_cases c : p.2 ∈ L.map (·.2)
        · exact g.sub q (c1 c ▸ hq)
        · rcases List.mem_cons.mp ((c2 c).mem_iff.mp hq) with z | z
          · rw [z]; exact List.mem_of_getElem? hp
          · exact g.sub q z
      · rw [take_get hp] at hq
        by_cases c : p.2 ∈ L.map (·.2)
        · rw [c1 c]
          rcases List.mem_append.mp hq with z | z
          · exact g.all q z
          · rw [List.mem_singleton.mp z]; exact c
        · refine ((c2 c).map (·.2)).mem_iff.mpr ?_
          rcases List.mem_append.mp hq with z | z
          · exact List.mem_cons_of_mem _ (g.all q z)
          · rw [List.mem_singleton.mp z]; exact List.mem_cons_self
    have kp3 : ∀ b o, h0.get? b = some o → h'.get? b = some o := fun b o e => (hsb.2 b (fun z => by rw [z, hS0] at e; cases e)).trans (kp2 b o e)
    refine wpAny_pure ⟨plainId_quiet F.plain_set_update_loop _, ih (i + 1) _ (by omega) hlt (W.frame _ s' _ _ hst' (Nat.le_add_right _ _) fun b hb o e => (hsb.2 b fun h : b = S => hSf (h ▸ hb)).trans e) kp3 ⟨L', es', ep', t', hS2, g'⟩ fun s2 L2 es2 ep2 t2 hm2 hS3 g2 kp4 => ?_⟩
    exact hR s2 L2 es2 ep2 t2 (Moved.trans W.gtrans ((hm.mono fun b hb => List.mem_cons_of_mem _ hb).then_heap (Nat.le_add_right _ _) fun b o hb e => (hsb.2 b fun h : b = S => hb (h ▸ List.mem_cons_self)).trans e) hm2) hS3 g2 kp4
theorem setOfTs {l : Addr} {its : Array Value} (ks : List (Addr × List Int)) {Q : Value → Shared → Prop} (hh : A.handled = none) (hl : s.heap.IsList l its) (hit : its.toList = ks.map fun p => Value.ref p.1) (hk : ∀ p ∈ ks, IsT P w s.heap p.2 p.1) (fd : Fewd ks) (hu : A.units + 3 < cLine)
    (h : ∀ (h' : Heap) (tk : Nat) L es ep t, SetTR P w h' s.heap.objs.size L es ep t → GotD ks ks.length L → (∀ b o, s.heap.get? b = some o → h'.get? b = some o) → Q (.ref s.heap.objs.size) { s with heap := h', toks := tk }) :
    wpAny (model P w) A (call (.type "set") [.ref l]) Q E s := by
  have hz : its.size = ks.length := by
    rw [← Array.length_toList, hit, List.length_map]
  obtain ⟨c0, t0, mro0⟩ := F.called_set.mro
  have made0 := F.called_set.made
  have sub0 := F.called_set.sub
  refine wpAny_call (codeAny_of_tree ?_)
  show wpAny _ _ (callAny (.type "set") _) _ _ _
  refine wpAny_pure ⟨Code.quiet_builtin _ (by decide +kernel), codeAny_builtin F.entry_type_call ?_⟩
  rw [Around.under_plain (weight_type_call_type "set" [.ref l] []) rfl]
  have x1 := F.called_set.notType
  have x2 := F.called_set.canCreate
  have x3 := F.typeCall_set_1 (.ref l)
  repeat (any_goals (first | assumption | wp_step))
  refine codeAny_mono (code_set_led1 (.ref l) (E := E) (Q₁ := fun ob z => ob = .ref s.heap.objs.size ∧ z = { s with heap := s.heap.push (nilSet w) }) ⟨rfl, rfl⟩) fun r z hr => ?_
  cases r with
  | error _ => exact hr
  | ok fl =>
    cases fl with
    | ret ob =>
      obtain ⟨rfl, rfl⟩ := hr
      have hS : (s.heap.push (nilSet w)).get? s.heap.objs.size = some (nilSet w) := Heap.get?_push_size _ rfl
      have hT : Shared.TypeIs { s with heap := s.heap.push (nilSet w) } (.ref s.heap.objs.size) "set" := ⟨_, hS, rfl⟩
      have y1 := F.called_set.init.lookup
      have y2 := F.called_set.init.bind (.ref s.heap.objs.size)
      repeat (any_goals (first | assumption | wp_step))
      refine codeAny_mono (codeAny_call_builtin (R := wants (fun r z => r = .none ∧ ∃ h' tk L es ep t, z = { s with heap := h', toks := tk } ∧ SetTR P w h' s.heap.objs.size L es ep t ∧ GotD ks ks.length L ∧ (∀ b o, s.heap.get? b = some o → h'.get? b = some o)) E) F.called_set.init.plain F.entry_set_init (check_set_init_1 hT ?_)) fun r2 z2 hr2 => ?_
      · obtain ⟨⟨oc, od, ot, os⟩, hol, hcl, nl, hdl⟩ := hl
        have hcl : oc = .type "list" := hcl
        have hdl : ot = .seq its nl := hdl
        subst hcl hdl
        have hol' : (s.heap.push (nilSet w)).get? l = some ⟨.type "list", od, .seq its nl, os⟩ := Heap.get?_push_of_some _ hol
        have z1 := F.sub_list_set
        have z2 := F.sub_list_frozenset
        have z3 : (Value.type "list" == Value.type "dict") = false := by decide
        have hl1 : (s.heap.push (nilSet w)).IsList l its := ⟨_, hol', rfl, nl, rfl⟩
        unfold Builtin.«set.__init__» noKeywords Builtin.Frozenset.updateFrom
        generalize hPI : pyIter = PI
        wp_walk
        subst hPI
        refine wpAny_pyIter_list hl1 (wpAny_bind (wpAny_runValue ?_))
        have hlS : l < s.heap.objs.size := Heap.lt_size hol
        have hh3 : A.in1.in1.in1.handled = none := by simp [hh]
        have hneI : l ≠ (s.heap.push (nilSet w)).objs.size := by
          rw [Heap.size_push]
          exact Nat.ne_of_lt (Nat.lt_succ_of_lt hlS)
        have hSf : s.heap.objs.size ∉ [(s.heap.push (nilSet w)).objs.size, l] := fun hm => by
          rw [Heap.size_push] at hm
          rcases List.mem_cons.mp hm with q | q
          · exact absurd q (Nat.ne_of_lt (Nat.lt_succ_self _))
          · exact absurd (List.mem_singleton.mp q) (Nat.ne_of_gt hlS)
        have hval : ∀ (i : Nat) (v : Value), its[i]? = some v → ∃ p, ks[i]? = some p ∧ v = .ref p.1 := fun i v hv => by
          have q : its.toList[i]? = some v := (Array.getElem?_toList ..).trans hv
          rw [hit, List.getElem?_map] at q
          obtain ⟨p, h1, h2⟩ := Option.map_eq_some_iff.mp q
          exact ⟨p, h1, h2.symm⟩
        have free : ∀ b, s.heap.objs.size ≤ b → s.heap.get? b = none := fun b hb => by
          rcases hq : s.heap.get? b with _ | o
          · rfl
          · exact absurd (Heap.lt_size hq) (Nat.not_lt.mpr hb)
        refine update_tupsD ((Walks.list hh3 _ l hneI its).toS) s.heap.objs.size hSf ks hz fd hval s.heap hk (free _ (Nat.le_refl _)) (fun b hb => free b (by rw [List.mem_singleton.mp hb, Heap.size_push]; exact Nat.le_succ _)) hu (its.size - 0) 0 _ (by omega) (Nat.zero_le _) ⟨⟨_, Heap.get?_push_size _ rfl, rfl, rfl⟩, hl1.push _⟩ (fun b o e => Heap.get?_push_of_some _ (Heap.get?_push_of_some _ e))
          ⟨[], #[], 0, _, setTR_fresh (Heap.get?_push_of_some _ hS), fun p h => (by cases h), fun p h => (by simp at h)⟩ fun s' L es ep t hm hS' g' hkp => ?_
        obtain ⟨h', g2, d', tk', os'⟩ := s'
        have eg : g2 = s.gens := hm.gens
        have ed : d' = s.drawn := hm.drawn
        have eo : os' = s.os := hm.os
        subst eg ed eo
        show wpAny _ _ _ _ _ _
        refine wpAny_pure ?_
        show wpAny _ _ (ret Value.none) _ _ _
        rw [hz] at g'
        exact wpAny_pure ⟨rfl, h', tk', L, es, ep, t, rfl, hS', g', hkp⟩
      · cases r2 with
        | error _ => exact hr2
        | ok fl2 =>
          cases fl2 with
          | ret r =>
            obtain ⟨rfl, h', tk, L, es, ep, t, rfl, hS', g', hk'⟩ := hr2
            repeat (any_goals (first | assumption | wp_step))
            exact h _ _ _ _ _ _ hS' g' hk'
          | _ => exact hr2.elim
    | _ => exact hr.elim
end
end UP

namespace UP
open PySem PySem.Spec PyProof.Rows L2
theorem sub_lenG {α : Type} [DecidableEq α] : ∀ {l m : List α}, l.Nodup → (∀ x ∈ l, x ∈ m) → l.length ≤ m.length
  | [], _, _, _ => Nat.zero_le _
  | x :: l, m, nd, h => by
    obtain ⟨n1, n2⟩ := List.nodup_cons.mp nd
    have hx := h x List.mem_cons_self
    have ih := sub_lenG (l := l) (m := m.erase x) n2 fun y hy => (List.mem_erase_of_ne (fun e : y = x => n1 (e ▸ hy))).mpr (h y (List.mem_cons_of_mem _ hy))
    rw [List.length_erase_of_mem hx] at ih
    have := List.length_pos_of_mem hx
    rw [List.length_cons]
    omega
theorem tups_at {K : PySem.W.Frag} {G : Hp} : ∀ {vs : List V} {ws : List (List Nat)}, DqAll K G vs (ws.map encR) → ∃ ks : List (Addr × List Int), vs = ks.map (fun p => V.ref p.1) ∧ ks.map (·.2) = ws.map castL ∧ ∀ p ∈ ks, G p.1 = some (.tup (p.2.map V.int))
  | [], [], _ => ⟨[], rfl, rfl, fun _ h => by cases h⟩
  | _, q :: ws, h => by
    cases h with
    | cons h1 h2 =>
      obtain ⟨ks, e1, e2, e3⟩ := tups_at h2
      rw [← encI_cast] at h1
      cases h1 with
      | tup g1 z d =>
        rename_i a us
        have ew : us = (castL q).map V.int := DqAll.ints (ns := castL q) d
        subst ew
        refine ⟨(a, castL q) :: ks, by rw [List.map_cons, ← e1], by rw [List.map_cons, List.map_cons, e2], fun p hp => ?_⟩
        rcases List.mem_cons.mp hp with z | z
        · rw [z]; exact g1
        · exact e3 p z
section
variable {X : Cx} {B : Bs} {ρ : DEnv} {e : Expr} {p p2 pos pos2 : Pos}
theorem cr_setOfTd (hc : X.calm = true) (hu : X.A.units + 64 < cLine) : CallR X (.type "set") (fun xs H Q => ∃ (l : Addr) (ks : List (Addr × List Int)), xs = [V.ref l] ∧ SqL X.K H l (ks.map fun p => V.ref p.1) ∧ (∀ p ∈ ks, SqT X.K H p.1 (p.2.map V.int)) ∧ Fewd ks ∧
    ∀ a L, H a = none → (∀ p ∈ L, p ∈ ks) → (∀ p ∈ ks, p.2 ∈ L.map (·.2)) → Q (.ref a) (upd H a (SetTO X.prog X.w a L))) := by
  intro pins s σ H xs us Q I r h
  obtain ⟨l, ks, rfl, hl, hk, fd, q⟩ := h
  rw [Vals.ref1 r]
  obtain ⟨its, rv, pl, hz⟩ := I.list hl
  refine setOfTs (P := X.prog) (w := X.w) ks (I.ok.hd hc) pl.isList (by simpa using refs_of_vals rv) (fun p hp => I.isT (hk p hp)) fd (by omega) fun h' tk L es ep t R g k => ?_
  exact ⟨.ref s.heap.objs.size, upd H s.heap.objs.size (SetTO X.prog X.w s.heap.objs.size L), I.laid (t' := tk) k (Nat.le_refl _) (setTO_new R.t0), rfl, q _ L (I.hok.fresh (Nat.le_refl _)) g.sub fun p hp => g.all p (by rw [List.take_length]; exact hp)⟩
theorem castL_len (v : List Nat) : (castL v).length = v.length := by unfold castL; rw [List.length_map]
theorem castL_bd {v : List Nat} (h : ∀ x ∈ v, x < 64) : TS.Bd 64 (castL v) := fun m hm => by
  unfold castL at hm
  obtain ⟨x, hx, rfl⟩ := List.mem_map.mp hm
  have := h x hx
  omega
theorem ev_sortedSetW {ws : List (List Nat)} {n : Nat} (bi : BI X.mg) (hc : X.calm = true) (hu : X.A.units + 65 < cLine) (ha : EVo X B ρ e (.list (ws.map encR))) (hn : 1 ≤ n) (hn6 : n ≤ 6) (hw : ∀ v ∈ ws, v.length = n ∧ ∀ x ∈ v, x < 64) (hf : (dedup ws).length < 63) (hg : Gl X "sorted" := by rfl) (hg2 : Gl X "set" := by rfl)
    (he : starEach [e] X.env = [(false, eval e X.env)] := by rfl) (he2 : starEach [.Call (.Name "set" p2) [e] [] pos2] X.env = [(false, eval (.Call (.Name "set" p2) [e] [] pos2) X.env)] := by rfl) : EVf X B ρ (.Call (.Name "sorted" p) [.Call (.Name "set" p2) [e] [] pos2] [] pos) ((sortN (dedup ws)).map encR) := by
  refine PE.imp (pe_callB (cr_sortedT hc) hg bi.sorted bt_sorted (pa_cons (pe_callTy (cr_setOfTd hc (by omega)) hg2 bi.set bt_set (pa_cons ha pa_nil he) (by decide) (by decide) he rfl) pa_nil he2) (by decide) (by decide) he2 rfl) fun σ H Q ⟨G, en, k⟩ => ⟨G, en, fun v H1 G1 g1 p1 => ?_⟩
  obtain ⟨q, vs, rfl, h1, z1, d1⟩ := DqO.list g1.sub p1
  obtain ⟨ks, rfl, e2, e3⟩ := tups_at d1
  have hks : ∀ p ∈ ks, ∃ r ∈ ws, p.2 = castL r := fun p hp => by
    have : p.2 ∈ ks.map (·.2) := List.mem_map.mpr ⟨p, hp, rfl⟩
    rw [e2] at this
    obtain ⟨r, hr, e⟩ := List.mem_map.mp this
    exact ⟨r, hr, e.symm⟩
  have fd : Fewd ks := fun l nd hl => by
    have h2 : ∀ x ∈ l, x ∈ (dedup ws).map castL := fun x hx => by
      have := hl x hx
      rw [e2] at this
      obtain ⟨r, hr, rfl⟩ := List.mem_map.mp this
      exact List.mem_map.mpr ⟨r, mem_dedup.mpr hr, rfl⟩
    have := sub_lenG nd h2
    rw [List.length_map] at this
    omega
  refine ⟨q, ks, rfl, SqL.of h1, fun p hp => SqT.of (g1.sub _ _ (e3 p hp)), fd, fun a L hna hL1 hL2 => ⟨a, L, n, 64, rfl, upd_same, fun p hp => SqT.of ?_, hn, fun p hp => ?_, fun L' r pm nd few pw hr => ?_⟩⟩
  · have h := g1.sub _ _ (e3 p (hL1 p hp))
    rw [upd_ne (ne_of_none h hna)]; exact h
  · obtain ⟨r, hr, er⟩ := hks p (hL1 p hp)
    rw [er, castL_len]
    exact ⟨(hw r hr).1, castL_bd (hw r hr).2⟩
  · have hra : r ≠ a := fun z => by rw [z, upd_same] at hr; cases hr
    have hr1 : H1 r = none := by rw [upd_ne hra] at hr; exact hr
    have hL' : ∀ p ∈ L', p ∈ ks := fun p hp => hL1 p (pm.mem_iff.mp hp)
    have es : L'.map (·.2) = (sortN (dedup ws)).map castL := by
      refine srtT_uniq ?_ ?_ ?_
      · refine List.pairwise_map.mpr (pw.imp_of_mem fun {x y} hx hy c => ?_)
        obtain ⟨u, hu', eu⟩ := hks x (hL' x hx)
        obtain ⟨v, hv', ev⟩ := hks y (hL' y hy)
        rw [eu, ev] at c ⊢
        exact code_le_lex (B := 64) (by decide) (by rw [castL_len, castL_len, (hw u hu').1, (hw v hv').1]) (castL_bd (hw u hu').2) (castL_bd (hw v hv').2) c
      · exact srtN_cast.mp (sortN_sorted _)
      · have nd2 : ((sortN (dedup ws)).map castL).Nodup := List.pairwise_map.mpr ((sort_nd (dedup_nd ws)).imp fun h e => h (castL_inj e))
        refine (List.perm_ext_iff_of_nodup nd nd2).mpr fun x => ?_
        constructor
        · intro hx
          obtain ⟨p, hp, rfl⟩ := List.mem_map.mp hx
          obtain ⟨u, hu', eu⟩ := hks p (hL' p hp)
          exact List.mem_map.mpr ⟨u, mem_sortN.mpr (mem_dedup.mpr hu'), eu.symm⟩
        · intro hx
          obtain ⟨u, hu', rfl⟩ := List.mem_map.mp hx
          have : castL u ∈ ks.map (·.2) := by rw [e2]; exact List.mem_map.mpr ⟨u, mem_dedup.mp (mem_sortN.mp hu'), rfl⟩
          obtain ⟨p, hp, ep⟩ := List.mem_map.mp this
          have := hL2 p hp
          rw [ep] at this
          exact ((pm.map (·.2)).mem_iff).mpr this
    have g2 : Grow G1 H1 G1 (upd (upd H1 a (SetTO X.prog X.w a L)) r (.lst (L'.map fun q => V.ref q.1))) := by
      refine ⟨Same.refl _, fun b o h => ?_, fun b o h => ?_, fun _ _ h => h, fun t => (t.updH fun xs z => nomatch (show HO.ext _ = HO.tup xs from z)).updH fun _ z => nomatch z⟩
      · rw [upd_ne (ne_of_none h hr1), upd_ne (ne_of_none h hna)]; exact h
      · have h := g1.sub _ _ h
        rw [upd_ne (ne_of_none h hr1), upd_ne (ne_of_none h hna)]; exact h
    refine k r _ _ G1 (g1.trans g2) (g1.hh.free hr1) (g1.sub.free hr1) upd_same (by rw [List.length_map]; exact z1000 (by omega)) ?_
    have dd := pairs_dq (K := X.K) (G := G1) (ks := L') fun p hp => ⟨e3 p (hL' p hp), by
      obtain ⟨u, hu', eu⟩ := hks p (hL' p hp)
      rw [eu, castL_len, (hw u hu').1]
      omega⟩
    rw [es, mapI_cast] at dd
    exact dd
end
end UP

/-! MO: all weights with a sum; what is reached, level by level. -/
namespace UP
open PySem PySem.Spec L2
def allW : Nat → Nat → List (List Nat)
  | 0, t => if t = 0 then [[]] else []
  | n + 1, t => (List.range (t + 1)).flatMap fun x => (allW n (t - x)).map (x :: ·)
theorem mem_allW : ∀ {n t : Nat} {w : List Nat}, w ∈ allW n t ↔ w.length = n ∧ w.sum = t
  | 0, t, w => by
    unfold allW
    by_cases e : t = 0
    · rw [if_pos e, List.mem_singleton]
      constructor
      · rintro rfl; exact ⟨rfl, e.symm⟩
      · rintro ⟨h, _⟩; exact List.eq_nil_of_length_eq_zero h
    · rw [if_neg e]
      constructor
      · intro h; cases h
      · rintro ⟨h1, h2⟩
        rw [List.eq_nil_of_length_eq_zero h1] at h2
        exact absurd h2.symm e
  | n + 1, t, w => by
    unfold allW
    rw [List.mem_flatMap]
    constructor
    · rintro ⟨x, hx, h⟩
      obtain ⟨r, hr, rfl⟩ := List.mem_map.mp h
      obtain ⟨h1, h2⟩ := mem_allW.mp hr
      have := List.mem_range.mp hx
      refine ⟨by rw [List.length_cons, h1], ?_⟩
      rw [List.sum_cons, h2]
      omega
    · rintro ⟨h1, h2⟩
      cases w with
      | nil => cases h1
      | cons x r =>
        rw [List.sum_cons] at h2
        refine ⟨x, List.mem_range.mpr (by omega), List.mem_map.mpr ⟨r, mem_allW.mpr ⟨by simpa using h1, by omega⟩, rfl⟩⟩
theorem lexN_cons (x y : Nat) (a b : List Nat) : lexN (x :: a) (y :: b) = if x = y then lexN a b else decide (x < y) := rfl
/-- strictly ascending -/
def Asc (l : List (List Nat)) : Prop := l.Pairwise fun x y => lexN x y = true
theorem lexN_asym {a b : List Nat} (h : lexN a b = true) : lexN b a = false := by
  rw [← lex_cast] at h ⊢
  exact lexLt_asym h
theorem lexN_irr (a : List Nat) : lexN a a = false := by rw [← lex_cast]; exact lexLt_irr _
theorem Asc.srt {l : List (List Nat)} (h : Asc l) : SrtN l := h.imp fun q => lexN_asym q
theorem Asc.nd {l : List (List Nat)} (h : Asc l) : l.Nodup := h.imp fun {a b} q e => by rw [e, lexN_irr] at q; cases q
theorem Asc.filter {l : List (List Nat)} (p : List Nat → Bool) (h : Asc l) : Asc (l.filter p) := List.Pairwise.filter p h
theorem allW_asc : ∀ n t : Nat, Asc (allW n t)
  | 0, t => by
    unfold allW
    split
    · exact List.pairwise_singleton _ _
    · exact List.Pairwise.nil
  | n + 1, t => by
    unfold allW Asc
    rw [List.pairwise_flatMap]
    refine ⟨fun x _ => ?_, ?_⟩
    · exact List.pairwise_map.mpr ((allW_asc n (t - x)).imp fun {a b} h => by rw [lexN_cons, if_pos rfl]; exact h)
    · refine (List.pairwise_lt_range (n := t + 1)).imp fun {x y} hxy a ha b hb => ?_
      obtain ⟨r, _, rfl⟩ := List.mem_map.mp ha
      obtain ⟨s, _, rfl⟩ := List.mem_map.mp hb
      rw [lexN_cons, if_neg (Nat.ne_of_lt hxy)]
      exact decide_eq_true hxy
/-- a sorted list without repeats is known by its members -/
theorem asc_uniq {l m : List (List Nat)} (hl : SrtN l) (nl : l.Nodup) (hm : SrtN m) (nm : m.Nodup) (h : ∀ x, x ∈ l ↔ x ∈ m) : l = m := srtN_uniq hl hm ((List.perm_ext_iff_of_nodup nl nm).mpr h)
theorem allW_few : ∀ n, n < 6 → ∀ t, t < 4 → (allW n t).length < 63 := by decide +kernel
theorem allW_w {n t : Nat} (ht : t ≤ 9) {w : List Nat} (h : w ∈ allW n t) : IsW n w ∧ w.sum = t := by
  obtain ⟨h1, h2⟩ := mem_allW.mp h
  exact ⟨⟨h1, by omega⟩, h2⟩
theorem allW_len {n t : Nat} (hn : n ≤ 6) (ht : t ≤ 9) : (allW n t).length ≤ 1000000 := nd_small hn (allW_asc n t).nd fun v hv => (allW_w ht hv).1
/-! ### the reached weights -/
def reachL (o : List (List Nat)) (v : List Nat) : List (List Nat) := (allW o.length v.sum).filter fun w => (paperOf o v w).isNone
section
variable {o : List (List Nat)} {v w : List Nat}
theorem mem_reachL : w ∈ reachL o v ↔ w.length = o.length ∧ w.sum = v.sum ∧ NoPaper o v w := by
  unfold reachL
  rw [List.mem_filter, mem_allW, pn_iff]
  exact ⟨fun ⟨⟨a, b⟩, c⟩ => ⟨a, b, c⟩, fun ⟨a, b, c⟩ => ⟨⟨a, b⟩, c⟩⟩
theorem reachL_asc : Asc (reachL o v) := (allW_asc _ _).filter _
theorem reach_iff (h : IsOrd o) (hv : IsW o.length v) : w ∈ reachL o v ↔ ∃ k, Pth o k v w := by
  rw [mem_reachL]
  constructor
  · rintro ⟨a, b, c⟩
    exact reach_pth h hv ⟨a, by rw [b]; exact hv.2⟩ b c
  · rintro ⟨k, t⟩
    obtain ⟨a, b, c⟩ := t.ok h hv.1
    exact ⟨b, c, a⟩
def rawL (o : List (List Nat)) (L : List (List Nat)) : List (List Nat) := L.flatMap fun h => rawTo o h o.length
theorem mem_rawL {L : List (List Nat)} : w ∈ rawL o L ↔ ∃ h ∈ L, St o h w := by
  unfold rawL
  rw [List.mem_flatMap]
  exact ⟨fun ⟨h, a, b⟩ => ⟨h, a, mem_raw.mp b⟩, fun ⟨h, a, b⟩ => ⟨h, a, mem_raw.mpr b⟩⟩
theorem rawL_len (h : IsOrd o) : ∀ L : List (List Nat), (rawL o L).length ≤ L.length * 36 := fun L => flatMap_len _ 36 L fun x _ => raw_len h (Nat.le_refl _)
/-- the next level -/
def newL (o : List (List Nat)) (F L : List (List Nat)) : List (List Nat) := (sortN (dedup (rawL o L))).filter fun w => !decide (w ∈ F)
theorem mem_newL {F L : List (List Nat)} : w ∈ newL o F L ↔ (∃ h ∈ L, St o h w) ∧ w ∉ F := by
  unfold newL
  rw [List.mem_filter, mem_sortN, mem_dedup, mem_rawL]
  simp
structure Bfs (o : List (List Nat)) (v : List Nat) (F L : List (List Nat)) : Prop where
  nd : F.Nodup
  start : v ∈ F
  rch : ∀ w ∈ F, ∃ k, Pth o k v w
  sub : ∀ w ∈ L, w ∈ F
  ndL : L.Nodup
  shut : ∀ u ∈ F, u ∉ L → ∀ w, St o u w → w ∈ F
theorem Bfs.init : Bfs o v [v] [v] := ⟨List.nodup_cons.mpr ⟨by simp, List.nodup_nil⟩, List.mem_cons_self, fun w hw => ⟨0, by rw [List.mem_singleton.mp hw]; exact .nil v⟩, fun _ h => h, List.nodup_cons.mpr ⟨by simp, List.nodup_nil⟩, fun u h1 h2 => absurd h1 h2⟩
theorem Bfs.step {F L : List (List Nat)} (b : Bfs o v F L) : Bfs o v (F ++ newL o F L) (newL o F L) := by
  have ndN : (newL o F L).Nodup := List.Pairwise.filter _ (sort_nd (dedup_nd _))
  refine ⟨List.nodup_append.mpr ⟨b.nd, ndN, fun x hx y hy e => (mem_newL.mp hy).2 (e ▸ hx)⟩, List.mem_append.mpr (.inl b.start), fun w hw => ?_, fun w hw => List.mem_append.mpr (.inr hw), ndN, fun u hu hn w hs => ?_⟩
  · rcases List.mem_append.mp hw with z | z
    · exact b.rch w z
    · obtain ⟨⟨h, hh, s⟩, _⟩ := mem_newL.mp z
      obtain ⟨k, t⟩ := b.rch h (b.sub h hh)
      exact ⟨k + 1, t.snoc s⟩
  · have hF : u ∈ F := (List.mem_append.mp hu).resolve_right hn
    by_cases z : u ∈ L
    · by_cases q : w ∈ F
      · exact List.mem_append.mpr (.inl q)
      · exact List.mem_append.mpr (.inr (mem_newL.mpr ⟨⟨u, z, hs⟩, q⟩))
    · exact List.mem_append.mpr (.inl (b.shut u hF z w hs))
theorem Bfs.all {F L : List (List Nat)} (b : Bfs o v F L) (h : IsOrd o) (hv : IsW o.length v) : ∀ w ∈ F, w ∈ allW o.length v.sum := fun w hw => by
  obtain ⟨a, c, _⟩ := mem_reachL.mp ((reach_iff h hv).mpr (b.rch w hw))
  exact mem_allW.mpr ⟨a, c⟩
theorem Bfs.len {F L : List (List Nat)} (b : Bfs o v F L) (h : IsOrd o) (hv : IsW o.length v) : F.length ≤ (allW o.length v.sum).length ∧ L.length ≤ (allW o.length v.sum).length := ⟨sub_lenG b.nd (b.all h hv), sub_lenG b.ndL fun w hw => b.all h hv w (b.sub w hw)⟩
theorem Bfs.done {F : List (List Nat)} (b : Bfs o v F []) (h : IsOrd o) (hv : IsW o.length v) : sortN F = reachL o v := by
  refine asc_uniq (sortN_sorted F) (sort_nd b.nd) reachL_asc.srt reachL_asc.nd fun w => ?_
  rw [mem_sortN, reach_iff h hv]
  constructor
  · exact b.rch w
  · rintro ⟨k, t⟩
    have main : ∀ {k : Nat} {u w : List Nat}, Pth o k u w → u ∈ F → w ∈ F := by
      intro k u w t
      induction t with
      | nil _ => exact fun h => h
      | cons s _ ih => exact fun hu => ih (b.shut _ hu (by simp) _ s)
    exact main t b.start
theorem Bfs.raw_few {F L : List (List Nat)} (b : Bfs o v F L) (h : IsOrd o) (hv : IsW o.length v) (h5 : o.length ≤ 5) (h3 : v.sum ≤ 3) : (∀ w ∈ rawL o L, w.length = o.length ∧ ∀ x ∈ w, x < 64) ∧ (dedup (rawL o L)).length < 63 := by
  have hm : ∀ w ∈ rawL o L, w ∈ allW o.length v.sum := fun w hw => by
    obtain ⟨u, hu, s⟩ := mem_rawL.mp hw
    obtain ⟨k, t⟩ := b.rch u (b.sub u hu)
    obtain ⟨a, c, _⟩ := mem_reachL.mp ((reach_iff h hv).mpr ⟨k + 1, t.snoc s⟩)
    exact mem_allW.mpr ⟨a, c⟩
  refine ⟨fun w hw => ?_, ?_⟩
  · obtain ⟨a, c⟩ := mem_allW.mp (hm w hw)
    exact ⟨a, fun x hx => by have := le_sum hx; omega⟩
  · have := sub_lenG (dedup_nd (rawL o L)) fun w hw => hm w (mem_dedup.mp hw)
    have := allW_few o.length (by omega) v.sum (by omega)
    omega
end
end UP

/-! MP: the least common greater weights. -/
namespace UP
open PySem PySem.Spec L2
def np' (o : List (List Nat)) (a b : List Nat) : Bool := (paperOf o a b).isNone
theorem np'_iff {o : List (List Nat)} {a b : List Nat} : np' o a b = true ↔ NoPaper o a b := pn_iff
def comA (o : List (List Nat)) (a b : List Nat) : List (List Nat) := (allW o.length a.sum).filter fun m => (np' o a m && np' o b m)
def leastC (o : List (List Nat)) (L : List (List Nat)) : List (List Nat) := L.filter fun m => (L.filter fun l => (!decide (l = m) && np' o l m)).isEmpty
section
variable {o : List (List Nat)} {a b w l m : List Nat}
theorem mem_comA : w ∈ comA o a b ↔ w.length = o.length ∧ w.sum = a.sum ∧ NoPaper o a w ∧ NoPaper o b w := by
  unfold comA
  rw [List.mem_filter, mem_allW, Bool.and_eq_true, np'_iff, np'_iff]
  exact ⟨fun ⟨⟨x, y⟩, z, u⟩ => ⟨x, y, z, u⟩, fun ⟨x, y, z, u⟩ => ⟨⟨x, y⟩, z, u⟩⟩
theorem comA_asc : Asc (comA o a b) := (allW_asc _ _).filter _
theorem leastC_asc {L : List (List Nat)} (h : Asc L) : Asc (leastC o L) := h.filter _
theorem mem_leastC {L : List (List Nat)} : m ∈ leastC o L ↔ m ∈ L ∧ ∀ l ∈ L, l ≠ m → ¬ NoPaper o l m := by
  unfold leastC
  rw [List.mem_filter, List.isEmpty_iff, List.filter_eq_nil_iff]
  constructor
  · rintro ⟨h1, h2⟩
    refine ⟨h1, fun l hl ne z => h2 l hl ?_⟩
    rw [np'_iff.mpr z, decide_eq_false ne]; rfl
  · rintro ⟨h1, h2⟩
    refine ⟨h1, fun l hl z => ?_⟩
    rw [Bool.and_eq_true, np'_iff] at z
    exact h2 l hl (by simpa using z.1) z.2
/-- both.filter, as the law makes it -/
theorem both_eq (hs : b.sum = a.sum) : ((reachL o a).filter fun w => decide (w ∈ reachL o b)) = comA o a b := by
  unfold reachL comA
  rw [List.filter_filter]
  refine List.filter_congr fun w hw => ?_
  obtain ⟨w1, w2⟩ := mem_allW.mp hw
  have e : decide (w ∈ (allW o.length b.sum).filter fun x => (paperOf o b x).isNone) = np' o b w := by
    rw [Bool.eq_iff_iff, decide_eq_true_eq, List.mem_filter, mem_allW]
    exact ⟨fun z => z.2, fun z => ⟨⟨w1, by omega⟩, z⟩⟩
  rw [e, Bool.and_comm]
  rfl
theorem common_one (h : IsOrd o) (ha : a.length = o.length) (hb : b.length = o.length) (hs : b.sum = a.sum) (np : NoPaper o a b) : leastC o (comA o a b) = [b] := by
  refine asc_uniq (leastC_asc comA_asc).srt (leastC_asc comA_asc).nd (List.pairwise_singleton _ _) (List.nodup_cons.mpr ⟨by simp, List.nodup_nil⟩) fun w => ?_
  rw [mem_leastC, List.mem_singleton]
  have bin : b ∈ comA o a b := mem_comA.mpr ⟨hb, hs, np, noPaper_refl⟩
  constructor
  · rintro ⟨h1, h2⟩
    refine Classical.byContradiction fun ne => ?_
    exact h2 b bin (fun e => ne e.symm) (mem_comA.mp h1).2.2.2
  · rintro rfl
    refine ⟨bin, fun l hl ne z => ne ?_⟩
    obtain ⟨l1, l2, l3, l4⟩ := mem_comA.mp hl
    exact noPaper_antisymm h l1 hb z l4
theorem comA_comm (hs : b.sum = a.sum) : comA o a b = comA o b a := by
  unfold comA
  rw [hs]
  exact List.filter_congr fun w _ => Bool.and_comm _ _
/-- below each stands a least one -/
theorem least_below (h : IsOrd o) {L : List (List Nat)} (nd : L.Nodup) (hL : ∀ w ∈ L, w.length = o.length) : ∀ (n : Nat) (w : List Nat), w ∈ L → (L.filter fun l => np' o l w).length ≤ n → ∃ l ∈ leastC o L, NoPaper o l w
  | 0, w, hw, hn => by
    have : w ∈ L.filter fun l => np' o l w := List.mem_filter.mpr ⟨hw, np'_iff.mpr noPaper_refl⟩
    rw [List.eq_nil_of_length_eq_zero (Nat.le_zero.mp hn)] at this
    cases this
  | n + 1, w, hw, hn => by
    by_cases z : ∃ l ∈ L, l ≠ w ∧ NoPaper o l w
    · obtain ⟨l, hl, ne, q⟩ := z
      have lt : (L.filter fun x => np' o x l).length < (L.filter fun x => np' o x w).length := by
        have hw2 : w ∉ L.filter fun x => np' o x l := fun y => ne (noPaper_antisymm h (hL l hl) (hL w hw) q (np'_iff.mp (List.mem_filter.mp y).2))
        have := sub_lenG (l := w :: L.filter fun x => np' o x l) (m := L.filter fun x => np' o x w) (List.nodup_cons.mpr ⟨hw2, List.Pairwise.filter _ nd⟩) fun x hx => by
          rcases List.mem_cons.mp hx with y | y
          · rw [y]; exact List.mem_filter.mpr ⟨hw, np'_iff.mpr noPaper_refl⟩
          · obtain ⟨y1, y2⟩ := List.mem_filter.mp y
            exact List.mem_filter.mpr ⟨y1, np'_iff.mpr (noPaper_trans (np'_iff.mp y2) q)⟩
        rw [List.length_cons] at this
        omega
      obtain ⟨m, hm, q2⟩ := least_below h nd hL n l hl (by omega)
      exact ⟨m, hm, noPaper_trans q2 q⟩
    · exact ⟨w, mem_leastC.mpr ⟨hw, fun l hl ne q => z ⟨l, hl, ne, q⟩⟩, noPaper_refl⟩
end
/-- a statement whose ways meet -/
theorem sd_seqW {X : Cx} {B : Bs} {ρ : DEnv} {st : Stmt} {rest : List Stmt} {E : DE} (ρ1 : DEnv) (h : SD X B ρ st { E with nx := fun ρ' => Le ρ' ρ1 }) (k : SDs X B ρ1 rest E) : SDs X B ρ (st :: rest) E :=
  sd_seq (DE.sub h (fun ρ' le => sd_weak le k) (fun _ _ z => z) (fun _ z => z) fun _ z => z)
end UP

/-! MQ: levels by distance; units that move at least. -/
namespace UP
open PySem PySem.Spec L2
section
variable {o : List (List Nat)} {a b v u w : List Nat}
structure Lvl (o : List (List Nat)) (a : List Nat) (k : Nat) (S L : List (List Nat)) : Prop where
  lev : ∀ w, w ∈ L ↔ Least o a w k
  seen : ∀ w, w ∈ S ↔ ∃ j, j ≤ k ∧ Pth o j a w
theorem Lvl.init : Lvl o a 0 [a] [a] := by
  refine ⟨fun w => ?_, fun w => ?_⟩
  · rw [List.mem_singleton]
    constructor
    · rintro rfl; exact ⟨.nil _, fun j hj => absurd hj (Nat.not_lt_zero _)⟩
    · rintro ⟨t, _⟩; cases t; rfl
  · rw [List.mem_singleton]
    constructor
    · rintro rfl; exact ⟨0, Nat.le_refl _, .nil _⟩
    · rintro ⟨j, hj, t⟩
      obtain rfl : j = 0 := by omega
      cases t; rfl
theorem Lvl.step {k : Nat} {S L : List (List Nat)} (h : Lvl o a k S L) : Lvl o a (k + 1) (S ++ newL o S L) (newL o S L) := by
  have key : ∀ w, w ∈ newL o S L ↔ Least o a w (k + 1) := fun w => by
    rw [mem_newL, h.seen]
    constructor
    · rintro ⟨⟨x, hx, s⟩, hn⟩
      refine ⟨((h.lev x).mp hx).1.snoc s, fun j hj t => hn ⟨j, by omega, t⟩⟩
    · rintro ⟨t, hn⟩
      obtain ⟨x, t1, s⟩ := t.last
      refine ⟨⟨x, (h.lev x).mpr ⟨t1, fun j hj t2 => hn (j + 1) (by omega) (t2.snoc s)⟩, s⟩, ?_⟩
      rintro ⟨j, hj, t2⟩
      exact hn j (by omega) t2
  refine ⟨key, fun w => ?_⟩
  rw [List.mem_append, key, h.seen]
  constructor
  · rintro (⟨j, hj, t⟩ | ⟨t, _⟩)
    · exact ⟨j, by omega, t⟩
    · exact ⟨k + 1, Nat.le_refl _, t⟩
  · rintro ⟨j, hj, t⟩
    by_cases z : ∃ i, i ≤ k ∧ Pth o i a w
    · exact .inl z
    · right
      have : j = k + 1 := by
        refine Classical.byContradiction fun y => z ⟨j, by omega, t⟩
      subst this
      exact ⟨t, fun i hi ti => z ⟨i, by omega, ti⟩⟩
/-! units that move at least -/
theorem moved_tri (h1 : a.length = u.length) (h2 : u.length = b.length) : moved a b ≤ moved a u + moved u b := by
  rw [moved_fsum (h1.trans h2), moved_fsum h1, moved_fsum h2, ← h1, ← fsum_add]
  exact fsum_le fun i _ => by omega
theorem moved_self (a : List Nat) : moved a a = 0 := by
  rw [moved_fsum rfl]
  rw [show (fun i => a.getD i 0 - a.getD i 0) = fun _ => 0 from funext fun i => Nat.sub_self _]
  exact fsum_zero _
theorem moved_step {p g : Nat} (hp : p < v.length) : moved v (stepN v p g) ≤ 1 := by
  rw [moved_fsum (stepN_len v p g).symm, ← fsum_single (n := v.length) 1 hp]
  refine fsum_le fun i hi => ?_
  rw [stepN_get hi]
  by_cases e : i = p
  · rw [if_pos e]; omega
  · rw [if_neg e]; omega
theorem moved_pth (h : IsOrd o) {k : Nat} (t : Pth o k a b) : a.length = o.length → moved a b ≤ k := by
  induction t with
  | nil v => intro _; rw [moved_self]; exact Nat.le_refl _
  | cons s t ih =>
    intro ha
    have hs := s.ok h ha
    have ht := t.ok h hs.2.1
    have i1 := ih hs.2.1
    have i2 := moved_tri (ha.trans hs.2.1.symm) (hs.2.1.trans ht.2.1.symm)
    obtain ⟨p, g, hp, h0, hg, e⟩ := s
    rw [e] at i1 i2
    have i3 := moved_step (v := _) (p := p) (g := g) (ha ▸ hp)
    omega
end
end UP

/-! MR: answers, candidates, the best set. -/
namespace UP
open PySem PySem.Spec L2
abbrev Ans := List Nat × Nat
def encA (x : Ans) : PyData := .tuple [encR x.1, encN x.2]
def encAs (l : List Ans) : PyData := .tuple (l.map encA)
def AnsG (o : List (List Nat)) (x : Ans) : Prop := x.1 ∈ closedSets o ∧ x.2 ≤ 9
def AnsD1 (o : List (List Nat)) (d : PyData) : Prop := ∃ x, d = encA x ∧ AnsG o x
def AnsOk (o : List (List Nat)) (d : PyData) : Prop := ∃ l, d = encAs l ∧ ∀ x ∈ l, AnsG o x
theorem encA_inj {x y : Ans} (h : encA x = encA y) : x = y := by
  unfold encA at h
  injection h with h
  injection h with h1 h2
  injection h2 with h2 _
  exact Prod.ext (encR_inj h1) (encN_inj h2)
theorem ans_all {o : List (List Nat)} : ∀ {ds : List PyData}, (∀ d ∈ ds, AnsD1 o d) → ∃ l : List Ans, ds = l.map encA ∧ ∀ x ∈ l, AnsG o x
  | [], _ => ⟨[], rfl, fun _ h => by cases h⟩
  | d :: ds, h => by
    obtain ⟨x, rfl, hx⟩ := h d List.mem_cons_self
    obtain ⟨l, rfl, hl⟩ := ans_all fun d hd => h d (List.mem_cons_of_mem _ hd)
    exact ⟨x :: l, rfl, fun u hu => by
      rcases List.mem_cons.mp hu with z | z
      · rw [z]; exact hx
      · exact hl u z⟩
theorem ans_iff {o : List (List Nat)} {ds : List PyData} : AnsOk o (.tuple ds) ↔ ∀ d ∈ ds, AnsD1 o d := by
  constructor
  · rintro ⟨l, e, h⟩ d hd
    unfold encAs at e
    injection e with e
    rw [e] at hd
    obtain ⟨x, hx, rfl⟩ := List.mem_map.mp hd
    exact ⟨x, rfl, h x hx⟩
  · intro h
    obtain ⟨l, rfl, hl⟩ := ans_all h
    exact ⟨l, rfl, hl⟩
/-- a def that asks check_answers first -/
def AnsR (c : Cl) (k : List (List Nat) → Nat → List Ans → Out → Prop) (d t an : PyData) (o : Out) : Prop := (¬ IsOrdD d ∧ o = .exc (.ref c.io) none) ∨ ∃ or, d = encO or ∧ IsOrd or ∧ ((inR t 0 4 = false ∧ o = .exc (.ref c.iw) none) ∨ ∃ n : Nat, t = encN n ∧ n ≤ 4 ∧ ((¬ AnsOk or an ∧ o = .exc (.ref c.ia) none) ∨ ∃ l, an = encAs l ∧ (∀ x ∈ l, AnsG or x) ∧ k or n l o))
def candL (o : List (List Nat)) (n : Nat) (l : List Ans) : List (List Nat) := (allW o.length n).filter fun w => (l.filter fun x => !decide (held w x.1 = x.2)).isEmpty
/-! ### the best set -/
def worstOf (h : List Nat) : Nat := (h.map fun t => h.count t).foldl max 0
theorem fold_max : ∀ (l : List Nat) (m : Nat), m ≤ l.foldl max m ∧ (∀ x ∈ l, x ≤ l.foldl max m) ∧ (l.foldl max m = m ∨ l.foldl max m ∈ l)
  | [], m => ⟨Nat.le_refl _, (fun _ h => by cases h), .inl rfl⟩
  | y :: l, m => by
    obtain ⟨h1, h2, h3⟩ := fold_max l (max m y)
    show m ≤ l.foldl max (max m y) ∧ (∀ x ∈ y :: l, x ≤ l.foldl max (max m y)) ∧ (l.foldl max (max m y) = m ∨ l.foldl max (max m y) ∈ y :: l)
    refine ⟨by omega, fun x hx => ?_, ?_⟩
    · rcases List.mem_cons.mp hx with z | z
      · omega
      · exact h2 x z
    · rcases h3 with z | z
      · rw [z]
        rcases Nat.le_total m y with q | q
        · right; rw [Nat.max_eq_right q]; exact List.mem_cons_self
        · left; exact Nat.max_eq_left q
      · exact .inr (List.mem_cons_of_mem _ z)
theorem worst_here {h : List Nat} (hn : h ≠ []) : worstOf h ∈ h.map (fun t => h.count t) ∧ ∀ y ∈ h.map fun t => h.count t, y ≤ worstOf h := by
  obtain ⟨h1, h2, h3⟩ := fold_max (h.map fun t => h.count t) 0
  refine ⟨?_, h2⟩
  rcases h3 with z | z
  · cases h with
    | nil => exact absurd rfl hn
    | cons x r =>
      have hx : (x :: r).count x ∈ (x :: r).map fun t => (x :: r).count t := List.mem_map.mpr ⟨x, List.mem_cons_self, rfl⟩
      have := h2 _ hx
      have pos : 0 < (x :: r).count x := List.count_pos_iff.mpr List.mem_cons_self
      rw [z] at this
      omega
  · exact z
theorem worst_range {h : List Nat} (hn : h ≠ []) (h5 : ∀ x ∈ h, x < 5) : worstOf h ∈ (List.range 5).map (fun t => h.count t) ∧ ∀ y ∈ (List.range 5).map fun t => h.count t, y ≤ worstOf h := by
  obtain ⟨h1, h2⟩ := worst_here hn
  constructor
  · obtain ⟨t, ht, e⟩ := List.mem_map.mp h1
    exact List.mem_map.mpr ⟨t, List.mem_range.mpr (h5 t ht), e⟩
  · intro y hy
    obtain ⟨t, _, rfl⟩ := List.mem_map.mp hy
    by_cases z : t ∈ h
    · exact h2 _ (List.mem_map.mpr ⟨t, z, rfl⟩)
    · rw [List.count_eq_zero.mpr z]; exact Nat.zero_le _
abbrev Bst := Option (Nat × List Nat)
def encBst : Bst → PyData
  | none => .none
  | some q => .tuple [encN q.1, encR q.2]
def bestStep (cand : List (List Nat)) (b : Bst) (s : List Nat) : Bst :=
  let w := worstOf (cand.map fun v => held v s)
  if w < cand.length ∧ (∀ q, b = some q → w < q.1) then some (w, s) else b
def bestOf (cand : List (List Nat)) (cs : List (List Nat)) : Bst := cs.foldl (bestStep cand) none
theorem best_take {cand cs : List (List Nat)} {i : Nat} {s : List Nat} (h : cs[i]? = some s) : bestOf cand (cs.take (i + 1)) = bestStep cand (bestOf cand (cs.take i)) s := by
  unfold bestOf
  rw [take_get h, List.foldl_append]; rfl
def encBest : Bst → PyData
  | none => .none
  | some q => encR q.2
theorem held_le {n : Nat} {v s : List Nat} (hs : Ris s n) (hv : v.length = n) : held v s ≤ v.sum := by
  have := held_compl hv hs
  omega
/-! ### all weights, point by point -/
def partW (t : Nat) : Nat → List (List Nat)
  | 0 => [[]]
  | i + 1 => (partW t i).flatMap fun one => (List.range (t + 1 - one.sum)).map fun x => one ++ [x]
theorem mem_partW {t : Nat} : ∀ {i : Nat} {w : List Nat}, w ∈ partW t i ↔ w.length = i ∧ w.sum ≤ t
  | 0, w => by
    show w ∈ [[]] ↔ _
    rw [List.mem_singleton]
    constructor
    · rintro rfl; exact ⟨rfl, Nat.zero_le _⟩
    · rintro ⟨h, _⟩; exact List.eq_nil_of_length_eq_zero h
  | i + 1, w => by
    unfold partW
    rw [List.mem_flatMap]
    constructor
    · rintro ⟨one, h1, h2⟩
      obtain ⟨x, hx, rfl⟩ := List.mem_map.mp h2
      obtain ⟨a1, a2⟩ := mem_partW.mp h1
      have := List.mem_range.mp hx
      rw [List.length_append, List.sum_append, List.length_singleton, List.sum_singleton]
      omega
    · rintro ⟨h1, h2⟩
      have hn : w ≠ [] := fun e => by rw [e] at h1; cases h1
      refine ⟨w.dropLast, mem_partW.mpr ⟨by rw [List.length_dropLast]; omega, ?_⟩, List.mem_map.mpr ⟨w.getLast hn, List.mem_range.mpr ?_, List.dropLast_concat_getLast hn⟩⟩
      · have e := congrArg List.sum (List.dropLast_concat_getLast hn)
        rw [List.sum_append, List.sum_singleton] at e
        omega
      · have e := congrArg List.sum (List.dropLast_concat_getLast hn)
        rw [List.sum_append, List.sum_singleton] at e
        omega
theorem lexN_app : ∀ {a b : List Nat} (x y : Nat), a.length = b.length → (lexN a b = true → lexN (a ++ [x]) (b ++ [y]) = true) ∧ (a = b → x < y → lexN (a ++ [x]) (b ++ [y]) = true)
  | [], [], x, y, _ => ⟨(fun h => by cases h), fun _ h => by show (if x = y then _ else decide (x < y)) = true; rw [if_neg (Nat.ne_of_lt h)]; exact decide_eq_true h⟩
  | a :: l, b :: m, x, y, hl => by
    obtain ⟨i1, i2⟩ := lexN_app (a := l) (b := m) x y (by simpa using hl)
    refine ⟨fun h => ?_, fun h hxy => ?_⟩
    · rw [lexN_cons] at h
      show lexN (a :: (l ++ [x])) (b :: (m ++ [y])) = true
      rw [lexN_cons]
      by_cases e : a = b
      · rw [if_pos e] at h ⊢; exact i1 h
      · rw [if_neg e] at h ⊢; exact h
    · injection h with h1 h2
      show lexN (a :: (l ++ [x])) (b :: (m ++ [y])) = true
      rw [lexN_cons, if_pos h1]
      exact i2 h2 hxy
theorem partW_asc (t : Nat) : ∀ i, Asc (partW t i)
  | 0 => List.pairwise_singleton _ _
  | i + 1 => by
    unfold partW Asc
    rw [List.pairwise_flatMap]
    refine ⟨fun one _ => ?_, ?_⟩
    · refine List.pairwise_map.mpr (List.pairwise_lt_range.imp fun {x y} h => (lexN_app x y rfl).2 rfl h)
    · refine (partW_asc t i).imp_of_mem fun {a b} ha hb h u hu v hv => ?_
      obtain ⟨x, _, rfl⟩ := List.mem_map.mp hu
      obtain ⟨y, _, rfl⟩ := List.mem_map.mp hv
      exact (lexN_app x y ((mem_partW.mp ha).1.trans (mem_partW.mp hb).1.symm)).1 h
theorem part_all (n t : Nat) : ((partW t n).filter fun w => decide (w.sum = t)) = allW n t := by
  have h1 := (partW_asc t n).filter fun w => decide (w.sum = t)
  refine asc_uniq h1.srt h1.nd (allW_asc n t).srt (allW_asc n t).nd fun w => ?_
  rw [List.mem_filter, mem_partW, mem_allW, decide_eq_true_eq]
  constructor
  · rintro ⟨⟨a, _⟩, b⟩; exact ⟨a, b⟩
  · rintro ⟨a, b⟩; exact ⟨⟨a, by omega⟩, b⟩
theorem allW_ne {n t : Nat} (h : 0 < n) : 0 < (allW n t).length := by
  have : (t :: List.replicate (n - 1) 0) ∈ allW n t := mem_allW.mpr ⟨by rw [List.length_cons, List.length_replicate]; omega, by rw [List.sum_cons, List.sum_replicate_nat]; omega⟩
  exact List.length_pos_of_mem this
end UP

/-! MS: the mover as a thing of one's own; methods and defs that take it first. -/
namespace UP
open PySem PySem.Spec L2
/-! ### calls of methods, and making, where an exception may leave -/
section
variable {X : Cx} {k : Nat} {f C : Addr} {fd : FuncData} {ps : List Str} {sp : Sp} {W : WX} {x m : Str} {p pos apos : Pos} {e o : Expr} {es : List Expr} {ta : TE} {t : TA}
def tMethX (C : Addr) (m : Str) (sp : Sp) (W : WX) (ta : TE) (t : TA) : TE := fun σ H Q => ta σ H fun y H1 => ∃ a dx fs, y = .ref a ∧ H1 a = some (.ins C dx fs) ∧ fs.lookup m = none ∧ t σ H1 fun vs H2 => sp (y :: vs) H2 Q (WE W σ)
theorem pe_methX {pl : Sem Bool} (tk : Takes X W) (he : PE X o ta) (c : Cls X.K C) (hm : Meth X.K C m f) (F : FnOk X.prog X.w X.K X.mg X.base (L2.CX X.prog X.w) k f fd ps sp) (hr : Room k X.A) (hb : Binds X.K fd ps []) (ha : PA X (e :: es) t)
    (hst : starEach (e :: es) X.env = (false, eval e X.env) :: starEach es X.env := by rfl) (hpl : (backTo pos (starEach es X.env)).any (·.1) = false := by rfl)
    (ht : eval (.Call (.Attribute o m apos) (e :: es) [] pos) X.env = (eval o X.env >>= fun ov => standAt apos.atName >>= fun _ => holding [ov] (getMethod ov m pl) >>= fun r => callWith pos r.1 r.2 (backTo pos (starEach (e :: es) X.env)) (backToKw pos (keywordEach [] X.env))) := by rfl) :
    PE X (.Call (.Attribute o m apos) (e :: es) [] pos) (tMethX C m sp W ta t) := ⟨fun pins s σ H Q I h => by
  refine PySem.W.methodCall_KW (pl := pl) (thn (he.run pins s σ H _ I h) fun u s1 ⟨y, H1, I1, ry, a, dx, fs, ey, ea, l, q⟩ => ?_) ht
  cases ey
  cases (show u = Value.ref a from ry)
  refine getmeth_ok I1 ea c hm l (PySem.W.callWith_K (first := [.ref a]) (h₀ := X.base) I.ok.mod.kin hm.kp (thn (ha.run pos pins s1 σ H1 _ I1 q) fun us s2 ⟨vs, H2, I2, r, q2⟩ => ⟨I2.kIn, ?_⟩) hst hpl)
  exact run_fnS (E := WE W) (us := .ref a :: us) (vs := .ref a :: vs) F hr hb (passAt tk σ) I2 (.cons rfl r) q2⟩
theorem pe_meth0X {pl : Sem Bool} (tk : Takes X W) (he : PE X o ta) (c : Cls X.K C) (hm : Meth X.K C m f) (F : FnOk X.prog X.w X.K X.mg X.base (L2.CX X.prog X.w) k f fd ps sp) (hr : Room k X.A) (hb : Binds X.K fd ps [])
    (ht : eval (.Call (.Attribute o m apos) [] [] pos) X.env = (eval o X.env >>= fun ov => standAt apos.atName >>= fun _ => holding [ov] (getMethod ov m pl) >>= fun r => callWith pos r.1 r.2 (backTo pos (starEach [] X.env)) (backToKw pos (keywordEach [] X.env))) := by rfl) :
    PE X (.Call (.Attribute o m apos) [] [] pos) (tMethX C m sp W ta tNil) := ⟨fun pins s σ H Q I h => by
  refine PySem.W.methodCall_KW (pl := pl) (thn (he.run pins s σ H _ I h) fun u s1 ⟨y, H1, I1, ry, a, dx, fs, ey, ea, l, q⟩ => ?_) ht
  cases ey
  cases (show u = Value.ref a from ry)
  exact getmeth_ok I1 ea c hm l (PySem.W.callWith_K0 (first := [.ref a]) I1.kIn hm.kp (run_fnS (E := WE W) (us := [.ref a]) (vs := [.ref a]) F hr hb (passAt tk σ) I1 (.cons rfl .nil) q))⟩
def tMakeX (C : Addr) (sp : Sp) (W : WX) (t : TA) : TE := fun σ H Q => t σ H fun vs H1 => ∀ y dx, H1 y = none → H1 dx = none → dx ≠ y → sp (.ref y :: vs) (upd (upd H1 dx (.own y)) y (.ins C dx [])) (fun v H2 => v = .non ∧ Q (.ref y) H2) (WE W σ)
theorem pe_makeX (tk : Takes X W) (M : Mk X.K C f) (F : FnOk X.prog X.w X.K X.mg X.base (L2.CX X.prog X.w) k f fd ps sp) (hr : Room (k + 1) X.A) (hg : Gl X x) (hm : X.mg x = some (.ref C)) (hb : Binds X.K fd ps []) (ha : PA X (e :: es) t)
    (hdb : (x == ("__debug__" : Str)) = false := by decide) (he : starEach (e :: es) X.env = (false, eval e X.env) :: starEach es X.env := by rfl) (hpl : (backTo pos (starEach es X.env)).any (·.1) = false := by rfl) :
    PE X (.Call (.Name x p) (e :: es) [] pos) (tMakeX C sp W t) := ⟨fun pins s0 σ H0 Q I0 h0 => by
  refine wpAny_Call_Name_kw (ld_glob I0 hg hm ?_ hdb)
  refine PySem.W.callWith_K (h₀ := X.base) I0.ok.mod.kin M.kp (thn (ha.run pos pins s0 σ H0 _ I0 h0) fun us s ⟨vs, H, I, r, h⟩ => ⟨I.kIn, ?_⟩) he hpl
  have hq := h (s.heap.objs.size + 1) s.heap.objs.size (I.hok.fresh (Nat.le_succ _)) (I.hok.fresh (Nat.le_refl _)) (Nat.ne_of_lt (Nat.lt_succ_self _))
  have I2 := Inv.made (C := C) I
  have r2 : Vals (V.ref (s.heap.objs.size + 1) :: vs) (Value.ref (s.heap.objs.size + 1) :: us) := .cons rfl r
  have hl : (Value.ref (s.heap.objs.size + 1) :: us).length = ps.length := r2.length.symm.trans (F.len _ _ _ _ hq)
  have b := hb { s with heap := _ } (Value.ref (s.heap.objs.size + 1) :: us) I2.kIn (by rw [List.append_nil]; exact hl)
  rw [List.append_nil] at b
  refine wpAny_call (make_map (f := f) I.kIn M.makes M.init (beq_iff_eq.mp M.fn) (codeAny_mono (F.run _ X.stack _ _ ⟨Value.ref (s.heap.objs.size + 1) :: us, []⟩ (Value.ref (s.heap.objs.size + 1) :: us) _ _ (WE W σ) (hr.make C us []) (I2.env0.make C us []) b r2 hq) fun rr s' hq' => ?_))
  cases rr with
  | error e => exact (passAt tk σ) pins _ _ e s' I2 hq'
  | ok fl =>
    cases fl with
    | ret u =>
      obtain ⟨v, H', I3, rv, ev, q3⟩ := I2.after hq'
      cases ev
      exact ⟨rv, ⟨V.ref (s.heap.objs.size + 1), H', I3, rfl, q3⟩⟩
    | next => exact False.elim hq'
    | brk => exact False.elim hq'
    | cont => exact False.elim hq'⟩
end
/-! ### the mover -/
structure Mv where
  ord : List (List Nat)
  steps : List (List Nat)
  kept : Nat
def movO (C dx l : Addr) (vo : V) (k : Nat) : HO := .ins C dx [("order", vo), ("steps", .ref l), ("kept", .int k)]
def movR (K : PySem.W.Frag) (C a dx l : Addr) (m : Mv) : Res where
  holds := fun v fp G H => v = .ref a ∧ fp = [a, dx, l] ∧ ∃ vo vs, H a = some (movO C dx l vo m.kept) ∧ H dx = some (.own a) ∧ H l = some (.lst vs) ∧ vs.length ≤ sizeLine ∧ Dq K G vo (encO m.ord) ∧ DqAll K G vs (m.steps.map encR)
  stab := fun v fp G H G' H' ⟨e1, e2, vo, vs, h1, h2, h3, z, h4, h5⟩ g h => ⟨e1, e2, vo, vs, by rw [h a (by rw [e2]; simp)]; exact h1, by rw [h dx (by rw [e2]; simp)]; exact h2, by rw [h l (by rw [e2]; simp)]; exact h3, z, Dq.mono g _ h4, DqAll.mono g _ h5⟩
abbrev Slot.mov (K : PySem.W.Frag) (C a dx l : Addr) (m : Mv) : Slot := .res (movR K C a dx l m)
/-- a heap without some of its objects -/
def sans (H : Hp) (fp : List Addr) : Hp := fun b => if b ∈ fp then none else H b
theorem sans_in {H : Hp} {fp : List Addr} {b : Addr} (h : b ∈ fp) : sans H fp b = none := if_pos h
theorem sans_out {H : Hp} {fp : List Addr} {b : Addr} (h : b ∉ fp) : sans H fp b = H b := if_neg h
theorem sans_some {H : Hp} {fp : List Addr} {b : Addr} {o : HO} (h : sans H fp b = some o) : b ∉ fp ∧ H b = some o := by
  by_cases z : b ∈ fp
  · rw [sans_in z] at h; cases h
  · exact ⟨z, by rw [sans_out z] at h; exact h⟩
/-- the object's own addresses -/
abbrev mvA (a dx l : Addr) : List Addr := [a, dx, l]
/-- a def that takes the mover first: from its state and data to an outcome and a state -/
def spM (K : PySem.W.Frag) (C : Addr) (R : Mv → List PyData → Out → Mv → Prop) : Sp := fun vs H Q E => ∃ a dx l us G m ds o m', vs = .ref a :: us ∧ Same G H ∧ Tc G H ∧ (movR K C a dx l m).holds (.ref a) (mvA a dx l) G H ∧ (∀ b ∈ mvA a dx l, G b = none) ∧ DqAll K G us ds ∧ R m ds o m' ∧ match o with
  | .ret d => ∀ v H' G', Grow G (sans H (mvA a dx l)) G' H' → (∀ b ∈ mvA a dx l, G' b = none) → (movR K C a dx l m').holds (.ref a) (mvA a dx l) G' H' → Dq K G' v d → Q v H'
  | .exc c ln => ∀ d H' G', Grow G (sans H (mvA a dx l)) G' H' → (∀ b ∈ mvA a dx l, G' b = none) → (movR K C a dx l m').holds (.ref a) (mvA a dx l) G' H' → XAt K G' H' d ln → E c d H'
section
variable {K : PySem.W.Frag} {B : Bs} {G H G' H' : Hp} {σ : L2.St} {ρ : DEnv} {C a dx l : Addr} {m m' : Mv} {j : Nat}
theorem Tc.sans (t : Tc G H) (fp : List Addr) : Tc G (sans H fp) := fun b xs e => t b xs (sans_some e).2
theorem En.mov (en : En K B G H σ ρ) (h : ρ[j]? = some (.mov K C a dx l m)) : σ[j]? = some (some (.ref a)) ∧ (movR K C a dx l m).holds (.ref a) (mvA a dx l) G H ∧ ∀ b ∈ mvA a dx l, G b = none := by
  obtain ⟨v, nf, e, q, own⟩ := en.getRes h
  obtain ⟨e1, e2, r⟩ := id q
  subst e1 e2
  exact ⟨e, ⟨rfl, rfl, r⟩, fun b hb => (own b hb).1⟩
/-- after a call that got the object -/
theorem En.meth (en : En K B G H σ ρ) (h : ρ[j]? = some (.mov K C a dx l m)) (g : Grow G (sans H (mvA a dx l)) G' H') (gn : ∀ b ∈ mvA a dx l, G' b = none) (hh : (movR K C a dx l m').holds (.ref a) (mvA a dx l) G' H') : En K B G' H' σ (ρ.set j (.mov K C a dx l m')) := by
  obtain ⟨fp, F⟩ := en.fp
  have hl : j < ρ.length := (List.getElem?_eq_some_iff.mp h).1
  have hl' : j < σ.length := by rw [← en.len]; exact hl
  obtain ⟨v, e, q⟩ := F.at_ j _ _ h (List.getElem?_eq_getElem hl')
  have hfp : fp j = mvA a dx l := q.2.1
  have ev : v = .ref a := q.1
  subst ev
  have out : ∀ b, b ∉ mvA a dx l → H b ≠ none → H' b = H b := fun b hb hn => by
    have : sans H (mvA a dx l) b = H b := sans_out hb
    rw [← this] at hn ⊢
    exact Same.eq_of g.hh hn
  have notB : ∀ b, B.2 b ≠ none → b ∉ mvA a dx l := fun b hb hm => hb (F.own j b (by rw [hfp]; exact hm)).2.1
  have gr : Grow B.1 B.2 G' H' := by
    refine ⟨en.gr.gg.trans g.gg, fun b o q => ?_, g.sub, fun b n q => ?_, fun t => g.tc ((en.gr.tc t).sans _)⟩
    · have hb := notB b (by rw [q]; exact fun z => nomatch z)
      have := en.gr.hh b o q
      rw [out b hb (by rw [this]; exact fun z => nomatch z)]
      exact this
    · have hb := notB b n
      refine g.sep b ?_ (en.gr.sep b n q)
      rw [sans_out hb]
      exact Same.ne en.gr.hh n
  have holdsNe : ∀ b ∈ mvA a dx l, H' b ≠ none := fun b hb => by
    obtain ⟨_, _, vo, vs, h1, h2, h3, _⟩ := hh
    rcases List.mem_cons.mp hb with z | z
    · rw [z, h1]; exact fun z => nomatch z
    · rcases List.mem_cons.mp z with z | z
      · rw [z, h2]; exact fun z => nomatch z
      · rw [List.mem_singleton.mp z, h3]; exact fun z => nomatch z
  refine ⟨gr, by rw [List.length_set]; exact en.len, fp, fun i s o h1 h2 => ?_, F.apart, fun i b hb => ?_⟩
  · by_cases hj : i = j
    · subst hj
      rw [List.getElem?_set_self hl] at h1
      rw [List.getElem?_eq_getElem hl', e] at h2
      cases h1; cases h2
      exact ⟨.ref a, rfl, by rw [hfp]; exact hh⟩
    · rw [List.getElem?_set_ne (Ne.symm hj)] at h1
      exact (F.at_ i s o h1 h2).grow g.gg fun b hb => out b (fun z => hj (F.apart i j b hb (by rw [hfp]; exact z))) (F.own i b hb).2.2
  · by_cases hj : b ∈ mvA a dx l
    · exact ⟨gn b hj, (F.own i b hb).2.1, holdsNe b hj⟩
    · obtain ⟨o1, o2, o3⟩ := F.own i b hb
      refine ⟨g.sep b (by rw [sans_out hj]; exact o3) o1, o2, ?_⟩
      rw [out b hj o3]
      exact o3
end
/-- a def's data at its start, the mover first -/
def rhoM (N : List Str) (s : Slot) (ds : List PyData) : DEnv := s :: ds.map Slot.d ++ List.replicate (N.length - (ds.length + 1)) .un
theorem en_startM {K : PySem.W.Frag} {G H : Hp} {N : List Str} {us : List V} {ds : List PyData} {C a dx l : Addr} {m : Mv} (s : Same G H) (t : Tc G H) (hh : (movR K C a dx l m).holds (.ref a) (mvA a dx l) G H) (hg : ∀ b ∈ mvA a dx l, G b = none) (h : DqAll K G us ds) :
    En K ⟨G, sans H (mvA a dx l), t.sans _⟩ G H (L2.start N (.ref a :: us)) (rhoM N (.mov K C a dx l m) ds) := by
  have hl := h.length
  have ne : ∀ b ∈ mvA a dx l, H b ≠ none := fun b hb => by
    obtain ⟨_, _, vo, vs, h1, h2, h3, _⟩ := hh
    rcases List.mem_cons.mp hb with z | z
    · rw [z, h1]; exact fun z => nomatch z
    · rcases List.mem_cons.mp z with z | z
      · rw [z, h2]; exact fun z => nomatch z
      · rw [List.mem_singleton.mp z, h3]; exact fun z => nomatch z
  refine ⟨⟨Same.refl _, fun b o e => (sans_some e).2, s, fun _ _ e => e, fun _ => t⟩, ?_, fun i => if i = 0 then mvA a dx l else [], fun i sl o h1 h2 => ?_, fun i k b h1 h2 => ?_, fun i b hb => ?_⟩
  · unfold L2.start rhoM
    simp [hl]
  · cases i with
    | zero =>
      have h1' : some (Slot.mov K C a dx l m) = some sl := h1
      have h2' : some (some (V.ref a)) = some o := h2
      cases h1'; cases h2'
      exact ⟨.ref a, rfl, by rw [if_pos rfl]; exact hh⟩
    | succ i =>
      rw [if_neg (Nat.succ_ne_zero i)]
      have h1 : (ds.map Slot.d ++ List.replicate (N.length - (ds.length + 1)) .un)[i]? = some sl := h1
      have h2 : (us.map some ++ List.replicate (N.length - (us.length + 1)) none)[i]? = some o := h2
      by_cases hi : i < ds.length
      · rw [List.getElem?_append_left (by rw [List.length_map]; exact hi), List.getElem?_map] at h1
        rw [List.getElem?_append_left (by rw [List.length_map, hl]; exact hi), List.getElem?_map] at h2
        obtain ⟨v, hv, dd⟩ := DqAll.get' h (List.getElem?_eq_getElem hi)
        rw [List.getElem?_eq_getElem hi] at h1
        rw [hv] at h2
        cases h1; cases h2
        exact ⟨rfl, v, rfl, dd⟩
      · rw [List.getElem?_append_right (by rw [List.length_map]; omega)] at h1
        have : sl = .un := by
          rw [List.getElem?_replicate] at h1
          split at h1
          · exact (Option.some.inj h1).symm
          · cases h1
        subst this
        rfl
  · by_cases zi : i = 0
    · by_cases zk : k = 0
      · omega
      · rw [if_neg zk] at h2; cases h2
    · rw [if_neg zi] at h1; cases h1
  · by_cases zi : i = 0
    · rw [if_pos zi] at hb
      exact ⟨hg b hb, sans_in hb, ne b hb⟩
    · rw [if_neg zi] at hb; cases hb
section
variable {P : Program} {w : World} {K : PySem.W.Frag} {mg : Str → Option Value} {base : Heap}
abbrev FnM (P : Program) (w : World) (K : PySem.W.Frag) (mg : Str → Option Value) (base : Heap) (C : Addr) (k : Nat) (f : Addr) (fd : FuncData) (ps : List Str) (R : Mv → List PyData → Out → Mv → Prop) : Prop := FnOk P w K mg base (L2.CX P w) k f fd ps (spM K C R)
/-- THE RULE for a def that takes the mover first -/
theorem fnM {x qual : Str} {st : Stmt} {f : Addr} {fd : FuncData} {N ps : List Str} {k : Nat} {C : Addr} {R : Mv → List PyData → Out → Mv → Prop} (F : Fun K x qual st f fd) (S : FnScope N ps (defScope st)) (hl : ∀ m ds o m', R m ds o m' → ds.length + 1 = ps.length)
    (body : ∀ (cdv : Value) (A : Around) (outer : List Env) (s : Shared) (H : Hp) (E : XK) (B : Bs) (a dx l : Addr) (m : Mv) (ds : List PyData) (o : Out) (m' : Mv), R m ds o m' → Room k (cxD P w K mg base N qual st f cdv A outer s H E).A →
      PassesOwn (model P w) (cxD P w K mg base N qual st f cdv A outer s H E).A (cxD P w K mg base N qual st f cdv A outer s H E).env (cxD P w K mg base N qual st f cdv A outer s H E).xe →
      TakesD (cxD P w K mg base N qual st f cdv A outer s H E) B (fun ρ c ln => o = .exc c ln ∧ ρ[0]? = some (.mov K C a dx l m')) →
      SDs (cxD P w K mg base N qual st f cdv A outer s H E) B (rhoM N (.mov K C a dx l m) ds) (defBody st) { nx := fun ρ => o = .ret .none ∧ ρ[0]? = some (.mov K C a dx l m'), rt := fun ρ d => o = .ret d ∧ ρ[0]? = some (.mov K C a dx l m'), ex := fun ρ c ln => o = .exc c ln ∧ ρ[0]? = some (.mov K C a dx l m') }) : FnM P w K mg base C (k + 1) f fd ps R := by
  refine F.okX S (fun vs H Q E ⟨a, dx, l, us, G, m, ds, o, m', e, _, _, _, _, hd, hR, _⟩ => by rw [e, List.length_cons, hd.length]; exact hl m ds o m' hR) fun cdv A outer s H vs Q E hr ⟨a, dx, l, us, G, m, ds, o, m', e, sG, tG, hh, hg, hd, hR, q⟩ => ?_
  subst e
  have tk0 : Takes (cxD P w K mg base N qual st f cdv A outer s H E) (fun cls d _ H => E cls d H) := takes_of rfl rfl rfl rfl
  have tk : TakesD (cxD P w K mg base N qual st f cdv A outer s H E) ⟨G, sans H (mvA a dx l), tG.sans _⟩ (fun ρ c ln => o = .exc c ln ∧ ρ[0]? = some (.mov K C a dx l m')) := by
    refine tk0.imp fun c d σ H' ⟨G', ρ', ln, en, xa, e, e0⟩ => ?_
    subst e
    obtain ⟨_, hm, hn⟩ := en.mov e0
    exact q d H' G' en.gr hn hm xa
  refine ⟨_, body cdv A outer s H E ⟨G, sans H (mvA a dx l), tG.sans _⟩ a dx l m ds o m' hR hr (passes_of rfl) tk, G, en_startM sG tG hh hg hd, fun ρ' σ' G' H' s' en' e => ?_, fun ρ' d v σ' G' H' s' en' dd e => ?_, fun _ _ _ _ _ _ z => z.elim, fun _ _ _ _ _ _ z => z.elim⟩
  · obtain ⟨e, e0⟩ : o = .ret .none ∧ ρ'[0]? = some (.mov K C a dx l m') := e
    subst e
    obtain ⟨_, hm, hn⟩ := en'.mov e0
    exact q .non H' G' en'.gr hn hm .non
  · obtain ⟨e, e0⟩ : o = .ret d ∧ ρ'[0]? = some (.mov K C a dx l m') := e
    subst e
    obtain ⟨_, hm, hn⟩ := en'.mov e0
    exact q v H' G' en'.gr hn hm dd
end
end UP

/-! MT: making a mover; reading and writing its fields. -/
namespace UP
open PySem PySem.Spec L2
/-- a new instance, some fields of data set -/
def insR (K : PySem.W.Frag) (C a dx : Addr) (ns : List Str) (ds : List PyData) : Res where
  holds := fun v fp G H => v = .ref a ∧ fp = [a, dx] ∧ ∃ vs, H a = some (.ins C dx (ns.zip vs)) ∧ H dx = some (.own a) ∧ DqAll K G vs ds
  stab := fun v fp G H G' H' ⟨e1, e2, vs, h1, h2, h3⟩ g h => ⟨e1, e2, vs, by rw [h a (by rw [e2]; simp)]; exact h1, by rw [h dx (by rw [e2]; simp)]; exact h2, DqAll.mono g _ h3⟩
/-- the same with the list of steps -/
def ins2R (K : PySem.W.Frag) (C a dx l : Addr) (d : PyData) (ds : List PyData) : Res where
  holds := fun v fp G H => v = .ref a ∧ fp = [a, dx, l] ∧ ∃ vo vs, H a = some (.ins C dx [("order", vo), ("steps", .ref l)]) ∧ H dx = some (.own a) ∧ H l = some (.lst vs) ∧ vs.length ≤ sizeLine ∧ Dq K G vo d ∧ DqAll K G vs ds
  stab := fun v fp G H G' H' ⟨e1, e2, vo, vs, h1, h2, h3, z, h4, h5⟩ g h => ⟨e1, e2, vo, vs, by rw [h a (by rw [e2]; simp)]; exact h1, by rw [h dx (by rw [e2]; simp)]; exact h2, by rw [h l (by rw [e2]; simp)]; exact h3, z, Dq.mono g _ h4, DqAll.mono g _ h5⟩
inductive MkO where
  | ok (m : Mv)
  | bad (c : Value) (l : Option PyData)
def spI (K : PySem.W.Frag) (C : Addr) (R : List PyData → MkO → Prop) : Sp := fun vs H Q E => ∃ a dx us G ds o, vs = .ref a :: us ∧ H a = some (.ins C dx []) ∧ H dx = some (.own a) ∧ G a = none ∧ G dx = none ∧ Same G H ∧ Tc G H ∧ DqAll K G us ds ∧ R ds o ∧ match o with
  | .ok m => ∀ l H' G', Grow G (sans H [a, dx]) G' H' → (∀ b ∈ mvA a dx l, G' b = none) → H l = none → (movR K C a dx l m).holds (.ref a) (mvA a dx l) G' H' → Q .non H'
  | .bad c ln => ∀ d H' G', Grow G (sans H [a, dx]) G' H' → XAt K G' H' d ln → E c d H'
section
variable {P : Program} {w : World} {K : PySem.W.Frag} {mg : Str → Option Value} {base : Heap}
theorem fnI {x qual : Str} {st : Stmt} {f : Addr} {fd : FuncData} {N ps : List Str} {k : Nat} {C : Addr} {R : List PyData → MkO → Prop} (F : Fun K x qual st f fd) (S : FnScope N ps (defScope st)) (hl : ∀ ds o, R ds o → ds.length + 1 = ps.length)
    (body : ∀ (cdv : Value) (A : Around) (outer : List Env) (s : Shared) (H : Hp) (E : XK) (B : Bs) (a dx : Addr) (ds : List PyData) (o : MkO), R ds o → Room k (cxD P w K mg base N qual st f cdv A outer s H E).A →
      TakesD (cxD P w K mg base N qual st f cdv A outer s H E) B (fun _ c ln => o = .bad c ln) →
      SDs (cxD P w K mg base N qual st f cdv A outer s H E) B (rhoM N (.res (insR K C a dx [] [])) ds) (defBody st) { nx := fun ρ => ∃ l m, o = .ok m ∧ ρ[0]? = some (.mov K C a dx l m), rt := fun _ _ => False, ex := fun _ c ln => o = .bad c ln }) : FnOk P w K mg base (L2.CX P w) (k + 1) f fd ps (spI K C R) := by
  refine F.okX S (fun vs H Q E ⟨a, dx, us, G, ds, o, e, _, _, _, _, _, _, hd, hR, _⟩ => by rw [e, List.length_cons, hd.length]; exact hl ds o hR) fun cdv A outer s H vs Q E hr ⟨a, dx, us, G, ds, o, e, ha, hdx, ga, gdx, sG, tG, hd, hR, q⟩ => ?_
  subst e
  have hlen := hd.length
  have tk0 : Takes (cxD P w K mg base N qual st f cdv A outer s H E) (fun cls d _ H => E cls d H) := takes_of rfl rfl rfl rfl
  have tk : TakesD (cxD P w K mg base N qual st f cdv A outer s H E) ⟨G, sans H [a, dx], tG.sans _⟩ (fun _ c ln => o = .bad c ln) := by
    refine tk0.imp fun c d σ H' ⟨G', ρ', ln, en, xa, e⟩ => ?_
    subst e
    exact q d H' G' en.gr xa
  have st0 : En K ⟨G, sans H [a, dx], tG.sans _⟩ G H (L2.start N (.ref a :: us)) (rhoM N (.res (insR K C a dx [] [])) ds) := by
    have ne : ∀ b ∈ [a, dx], G b = none ∧ H b ≠ none := fun b hb => by
      rcases List.mem_cons.mp hb with z | z
      · rw [z, ha]; exact ⟨ga, fun z => nomatch z⟩
      · rw [List.mem_singleton.mp z, hdx]; exact ⟨gdx, fun z => nomatch z⟩
    refine ⟨⟨Same.refl _, fun b o e => (sans_some e).2, sG, fun _ _ e => e, fun _ => tG⟩, ?_, fun i => if i = 0 then [a, dx] else [], fun i sl o h1 h2 => ?_, fun i k b h1 h2 => ?_, fun i b hb => ?_⟩
    · unfold L2.start rhoM
      simp [hlen]
    · cases i with
      | zero =>
        have h1' : some (Slot.res (insR K C a dx [] [])) = some sl := h1
        have h2' : some (some (V.ref a)) = some o := h2
        cases h1'; cases h2'
        exact ⟨.ref a, rfl, by rw [if_pos rfl]; exact ⟨rfl, rfl, [], ha, hdx, .nil⟩⟩
      | succ i =>
        rw [if_neg (Nat.succ_ne_zero i)]
        have h1 : (ds.map Slot.d ++ List.replicate (N.length - (ds.length + 1)) .un)[i]? = some sl := h1
        have h2 : (us.map some ++ List.replicate (N.length - (us.length + 1)) none)[i]? = some o := h2
        by_cases hi : i < ds.length
        · rw [List.getElem?_append_left (by rw [List.length_map]; exact hi), List.getElem?_map] at h1
          rw [List.getElem?_append_left (by rw [List.length_map, hlen]; exact hi), List.getElem?_map] at h2
          obtain ⟨v, hv, dd⟩ := DqAll.get' hd (List.getElem?_eq_getElem hi)
          rw [List.getElem?_eq_getElem hi] at h1
          rw [hv] at h2
          cases h1; cases h2
          exact ⟨rfl, v, rfl, dd⟩
        · rw [List.getElem?_append_right (by rw [List.length_map]; omega)] at h1
          have : sl = .un := by
            rw [List.getElem?_replicate] at h1
            split at h1
            · exact (Option.some.inj h1).symm
            · cases h1
          subst this
          rfl
    · by_cases zi : i = 0
      · by_cases zk : k = 0
        · omega
        · rw [if_neg zk] at h2; cases h2
      · rw [if_neg zi] at h1; cases h1
    · by_cases zi : i = 0
      · rw [if_pos zi] at hb
        exact ⟨(ne b hb).1, sans_in hb, (ne b hb).2⟩
      · rw [if_neg zi] at hb; cases hb
  refine ⟨_, body cdv A outer s H E ⟨G, sans H [a, dx], tG.sans _⟩ a dx ds o hR hr tk, G, st0, fun ρ' σ' G' H' s' en' e => ?_, fun _ _ _ _ _ _ _ _ _ z => z.elim, fun _ _ _ _ _ _ z => z.elim, fun _ _ _ _ _ _ z => z.elim⟩
  obtain ⟨l, m, e, e0⟩ : ∃ l m, o = .ok m ∧ ρ'[0]? = some (.mov K C a dx l m) := e
  subst e
  obtain ⟨v, nf, _, hq, own⟩ := en'.getRes e0
  obtain ⟨e1, e2, r⟩ := id hq
  subst e1 e2
  obtain ⟨vo, vs, r1, r2, r3, _⟩ := r
  refine q l H' G' en'.gr (fun b hb => (own b hb).1) ?_ hq
  have hn : sans H [a, dx] l = none := (own l (by simp)).2.1
  by_cases z : l ∈ [a, dx]
  · rcases List.mem_cons.mp z with y | y
    · rw [y, r1] at r3; cases r3
    · rw [List.mem_singleton.mp y, r2] at r3; cases r3
  · rw [sans_out z] at hn; exact hn
end
/-! ### storing the fields -/
section
variable {X : Cx} {B : Bs} {ρ : DEnv} {e : Expr} {pos p tpos : Pos} {i : Nat} {x : Str} {E : DE} {C a dx : Addr}
/-- the slot's thing changed, its first object written -/
theorem En.putF {K : PySem.W.Frag} {G H : Hp} {σ : L2.St} (en : En K B G H σ ρ) {R R' : Res} {o' : HO} {nf nf' : List Addr} (hi : ρ[i]? = some (.res R)) (ha : σ[i]? = some (some (.ref a))) (hR : ∀ fp, R.holds (.ref a) fp G H → fp = nf) (han : a ∈ nf) (no : ∀ xs, o' ≠ .tup xs)
    (h' : R'.holds (.ref a) nf' G (upd H a o')) (sub : ∀ b ∈ nf', b ∈ nf) (ne : ∀ b ∈ nf', upd H a o' b ≠ none) : En K B G (upd H a o') σ (ρ.set i (.res R')) := by
  obtain ⟨fp, F⟩ := en.fp
  have hl : i < ρ.length := (List.getElem?_eq_some_iff.mp hi).1
  obtain ⟨v, e, q⟩ := F.at_ i _ _ hi ha
  cases e
  have hfp := hR _ q
  obtain ⟨g1, g2, g3⟩ := F.own i a (by rw [hfp]; exact han)
  have gr : Grow B.1 B.2 G (upd H a o') := by
    refine ⟨en.gr.gg, fun b o q => ?_, fun b o q => ?_, en.gr.sep, fun t => (en.gr.tc t).updH no⟩
    · rw [upd_ne (fun z => by rw [z, g2] at q; cases q)]; exact en.gr.hh b o q
    · rw [upd_ne (fun z => by rw [z, g1] at q; cases q)]; exact en.gr.sub b o q
  exact en.rewrite F hfp hl ha gr (R := R) (R' := R') (nf' := nf') h' (fun b hb _ => upd_ne fun z => hb (by rw [z]; exact han)) (fun b hb => .inl (sub b hb)) ne
theorem En.rewriteG {K : PySem.W.Frag} {G H G1 H1 H2 : Hp} {σ : L2.St} (en : En K B G H σ ρ) {R' : Res} {v : V} {nf nf' : List Addr} {fp : Nat → List Addr} (F : Fp K B G H σ ρ fp) (hi : fp i = nf) (hl : i < ρ.length) (hv : σ[i]? = some (some v)) (g : Grow G H G1 H1) (gr : Grow B.1 B.2 G1 H2)
    (h' : R'.holds v nf' G1 H2) (out : ∀ b, b ∉ nf → H b ≠ none → H2 b = H b) (sub : ∀ b ∈ nf', b ∈ nf ∨ (H b = none ∧ G1 b = none)) (ne : ∀ b ∈ nf', H2 b ≠ none) : En K B G1 H2 σ (ρ.set i (.res R')) := by
  refine ⟨gr, by rw [List.length_set]; exact en.len, fun j => if j = i then nf' else fp j, fun j s o h1 h2 => ?_, fun j k b h1 h2 => ?_, fun j b hb => ?_⟩
  · by_cases hj : j = i
    · subst hj
      rw [if_pos rfl]
      rw [List.getElem?_set_self hl] at h1
      rw [hv] at h2
      cases h1; cases h2
      exact ⟨v, rfl, h'⟩
    · rw [if_neg hj]
      rw [List.getElem?_set_ne (Ne.symm hj)] at h1
      exact (F.at_ j s o h1 h2).grow g.gg fun b hb => out b (fun z => hj (F.apart j i b hb (by rw [hi]; exact z))) (F.own j b hb).2.2
  · by_cases hj : j = i
    · rw [if_pos hj] at h1
      by_cases hk : k = i
      · rw [hj, hk]
      · rw [if_neg hk] at h2
        rcases sub b h1 with z | z
        · exact absurd (F.apart k i b h2 (by rw [hi]; exact z)) hk
        · exact absurd z.1 (F.own k b h2).2.2
    · rw [if_neg hj] at h1
      by_cases hk : k = i
      · rw [if_pos hk] at h2
        rcases sub b h2 with z | z
        · exact absurd (F.apart j i b h1 (by rw [hi]; exact z)) hj
        · exact absurd z.1 (F.own j b h1).2.2
      · rw [if_neg hk] at h2
        exact F.apart j k b h1 h2
  · by_cases hj : j = i
    · rw [if_pos hj] at hb
      rcases sub b hb with z | z
      · obtain ⟨o1, o2, o3⟩ := F.own i b (by rw [hi]; exact z)
        exact ⟨g.sep b o3 o1, o2, ne b hb⟩
      · exact ⟨z.2, en.gr.hh.free z.1, ne b hb⟩
    · rw [if_neg hj] at hb
      obtain ⟨o1, o2, o3⟩ := F.own j b hb
      refine ⟨g.sep b o3 o1, o2, ?_⟩
      rw [out b (fun z => hj (F.apart j i b hb (by rw [hi]; exact z))) o3]
      exact o3
theorem sd_fld1 {d : PyData} (hρ : ρ[i]? = some (.res (insR X.K C a dx [] []))) (c : Cls X.K C) (nf : NoAttr X.K C "order") (he : EV X B ρ e d) (h : E.nx (ρ.set i (.res (insR X.K C a dx ["order"] [d])))) (hN : X.N[i]? = some x := by rfl) (hv : Vis X.env.scope x := by first | exact Or.inl rfl | exact Or.inr (Or.inl rfl) | exact Or.inr (Or.inr rfl))
    (hd : (x == ("__debug__" : Str)) = false := by decide) (hcd : (x == ("__classdict__" : Str)) = false := by decide) (hs : swapsWith e (some (.Attribute (.Name x p) "order" tpos)) pos.line X.env = pure false := by rfl) : SD X B ρ (.Assign [.Attribute (.Name x p) "order" tpos] e pos) E := by
  refine PS.imp (ps_fld (pe_var (i := i) hN hv hd hcd) he hs) fun D σ H ⟨G, en, h1, _⟩ => ⟨G, en, fun v H1 G1 g1 p1 => ?_⟩
  have en1 := en.grow g1
  obtain ⟨u, nf1, e1, hh, own⟩ := en1.getRes hρ
  obtain ⟨rfl, rfl, vs, r1, r2, r3⟩ := hh
  cases r3
  have ndx : dx ≠ a := fun z => by rw [z, r1] at r2; cases r2
  refine ⟨_, e1, a, C, dx, [], rfl, r1, c, nf, by show 0 < 1000; decide, h1 _ σ G1 _ g1.gg (en1.putF hρ e1 (R' := insR X.K C a dx ["order"] [d]) (nf := [a, dx]) (nf' := [a, dx]) (fun fp q => q.2.1) (by simp) (fun _ z => nomatch z) ⟨rfl, rfl, [v], upd_same, by rw [upd_ne ndx]; exact r2, .cons p1 .nil⟩ (fun b hb => hb) fun b hb => ?_) h⟩
  rcases List.mem_cons.mp hb with z | z
  · rw [z, upd_same]; exact fun z => nomatch z
  · rw [List.mem_singleton.mp z, upd_ne ndx, r2]; exact fun z => nomatch z
theorem sd_fld2 {d : PyData} {ds : List PyData} (hρ : ρ[i]? = some (.res (insR X.K C a dx ["order"] [d]))) (c : Cls X.K C) (nf : NoAttr X.K C "steps") (he : EVf X B ρ e ds) (h : ∀ l, E.nx (ρ.set i (.res (ins2R X.K C a dx l d ds)))) (hN : X.N[i]? = some x := by rfl) (hv : Vis X.env.scope x := by first | exact Or.inl rfl | exact Or.inr (Or.inl rfl) | exact Or.inr (Or.inr rfl))
    (hd : (x == ("__debug__" : Str)) = false := by decide) (hcd : (x == ("__classdict__" : Str)) = false := by decide) (hs : swapsWith e (some (.Attribute (.Name x p) "steps" tpos)) pos.line X.env = pure false := by rfl) : SD X B ρ (.Assign [.Attribute (.Name x p) "steps" tpos] e pos) E := by
  refine PS.imp (ps_fld (pe_var (i := i) hN hv hd hcd) he hs) fun D σ H ⟨G, en, h1, _⟩ => ⟨G, en, fun l vs H1 G1 g1 n1 n2 hl hz dd => ?_⟩
  have en1 := en.grow g1
  have hlen : i < ρ.length := (List.getElem?_eq_some_iff.mp hρ).1
  obtain ⟨fp, F⟩ := en.fp
  obtain ⟨u, nf1, e1, hh0, own⟩ := en1.getRes hρ
  obtain ⟨v, ev, hh⟩ := F.at_ i _ _ hρ e1
  cases ev
  obtain ⟨rfl, hfp, us, r1, r2, r3⟩ := hh
  cases r3 with
  | cons q1 q2 =>
    cases q2
    rename_i vo
    have ndx : dx ≠ a := fun z => by rw [z, r1] at r2; cases r2
    have nl : l ≠ a := fun z => by rw [z, r1] at n1; cases n1
    have nl2 : dx ≠ l := fun z => by rw [z, n1] at r2; cases r2
    obtain ⟨a1, a2, a3⟩ := F.own i a (by rw [hfp]; simp)
    have a1' : G1 a = none := g1.sep a a3 a1
    have gr : Grow B.1 B.2 G1 (upd H1 a (.ins C dx [("order", vo), ("steps", .ref l)])) := by
      refine ⟨en1.gr.gg, fun b o q => ?_, fun b o q => ?_, en1.gr.sep, fun t => (en1.gr.tc t).updH fun _ z => nomatch z⟩
      · rw [upd_ne (fun z => by rw [z, a2] at q; cases q)]; exact en1.gr.hh b o q
      · rw [upd_ne (fun z => by rw [z, a1'] at q; cases q)]; exact en1.gr.sub b o q
    refine ⟨_, e1, a, C, dx, _, rfl, g1.hh _ _ r1, c, nf, by show 1 < 1000; decide, h1 _ σ G1 _ g1.gg (en.rewriteG F hfp hlen e1 g1 gr (R' := ins2R X.K C a dx l d ds) (nf' := [a, dx, l]) ⟨rfl, rfl, vo, vs, upd_same, by rw [upd_ne ndx]; exact g1.hh _ _ r2, by rw [upd_ne nl]; exact hl, hz, Dq.mono g1.gg _ q1, dd⟩ (fun b hb hn => ?_) (fun b hb => ?_) (fun b hb => ?_)) (h l)⟩
    · rw [upd_ne (fun z => hb (by rw [z]; simp))]
      exact Same.eq_of g1.hh hn
    · rcases List.mem_cons.mp hb with z | z
      · exact .inl (by rw [z]; simp)
      · rcases List.mem_cons.mp z with z | z
        · exact .inl (by rw [z]; simp)
        · rw [List.mem_singleton.mp z]; exact .inr ⟨n1, n2⟩
    · rcases List.mem_cons.mp hb with z | z
      · rw [z, upd_same]; exact fun z => nomatch z
      · rcases List.mem_cons.mp z with z | z
        · rw [z, upd_ne ndx, g1.hh _ _ r2]; exact fun z => nomatch z
        · rw [List.mem_singleton.mp z, upd_ne nl, hl]; exact fun z => nomatch z
theorem sd_fld3 {or : List (List Nat)} {ws : List (List Nat)} {n : Nat} {l : Addr} (hρ : ρ[i]? = some (.res (ins2R X.K C a dx l (encO or) (ws.map encR)))) (c : Cls X.K C) (nf : NoAttr X.K C "kept") (he : EV X B ρ e (encN n)) (h : E.nx (ρ.set i (.mov X.K C a dx l ⟨or, ws, n⟩))) (hN : X.N[i]? = some x := by rfl) (hv : Vis X.env.scope x := by first | exact Or.inl rfl | exact Or.inr (Or.inl rfl) | exact Or.inr (Or.inr rfl))
    (hd : (x == ("__debug__" : Str)) = false := by decide) (hcd : (x == ("__classdict__" : Str)) = false := by decide) (hs : swapsWith e (some (.Attribute (.Name x p) "kept" tpos)) pos.line X.env = pure false := by rfl) : SD X B ρ (.Assign [.Attribute (.Name x p) "kept" tpos] e pos) E := by
  refine PS.imp (ps_fld (pe_var (i := i) hN hv hd hcd) he hs) fun D σ H ⟨G, en, h1, _⟩ => ⟨G, en, fun v H1 G1 g1 p1 => ?_⟩
  cases p1
  have en1 := en.grow g1
  obtain ⟨u, nf1, e1, hh, own⟩ := en1.getRes hρ
  obtain ⟨rfl, rfl, vo, vs, r1, r2, r3, z, q1, q2⟩ := hh
  have ndx : dx ≠ a := fun z => by rw [z, r1] at r2; cases r2
  have nl : l ≠ a := fun z => by rw [z, r1] at r3; cases r3
  refine ⟨_, e1, a, C, dx, _, rfl, r1, c, nf, by show 2 < 1000; decide, h1 _ σ G1 _ g1.gg (en1.putF hρ e1 (R' := movR X.K C a dx l ⟨or, ws, n⟩) (nf := [a, dx, l]) (nf' := [a, dx, l]) (fun fp q => q.2.1) (by simp) (fun _ z => nomatch z) ⟨rfl, rfl, vo, vs, upd_same, by rw [upd_ne ndx]; exact r2, by rw [upd_ne nl]; exact r3, z, q1, q2⟩ (fun b hb => hb) fun b hb => ?_) h⟩
  rcases List.mem_cons.mp hb with z | z
  · rw [z, upd_same]; exact fun z => nomatch z
  · rcases List.mem_cons.mp z with z | z
    · rw [z, upd_ne ndx, r2]; exact fun z => nomatch z
    · rw [List.mem_singleton.mp z, upd_ne nl, r3]; exact fun z => nomatch z
end
end UP

/-! MU: a mover made, by its caller. -/
namespace UP
open PySem PySem.Spec L2
/-- the class by its name: how it is made -/
structure MkAt (P : Program) (w : World) (K : PySem.W.Frag) (mg : Str → Option Value) (base : Heap) (k : Nat) (x : Str) (C : Addr) (ps : List Str) (R : List PyData → MkO → Prop) : Prop where
  ex : ∃ f fd, Mk K C f ∧ mg x = some (.ref C) ∧ Binds K fd ps [] ∧ FnOk P w K mg base (L2.CX P w) k f fd ps (spI K C R)
theorem sans_make {H : Hp} {y dx : Addr} {o1 o2 : HO} (h1 : H y = none) (h2 : H dx = none) : sans (upd (upd H dx o1) y o2) [y, dx] = H := by
  funext b
  unfold sans
  by_cases h : b ∈ [y, dx]
  · rw [if_pos h]
    rcases List.mem_cons.mp h with z | z
    · rw [z, h1]
    · rw [List.mem_singleton.mp z, h2]
  · rw [if_neg h, upd_ne (fun z => h (by rw [z]; simp)), upd_ne (fun z => h (by rw [z]; simp))]
def tMk (K : PySem.W.Frag) (B : Bs) (ρ : DEnv) (C : Addr) (o : MkO) (ex : DEnv → Value → Option PyData → Prop) : TE := fun σ H Q => ∃ G, En K B G H σ ρ ∧ match o with
  | .ok m => ∀ a dx l H' G', Grow G H G' H' → (∀ b ∈ mvA a dx l, H b = none) → (∀ b ∈ mvA a dx l, G' b = none) → (movR K C a dx l m).holds (.ref a) (mvA a dx l) G' H' → Q (.ref a) H'
  | .bad c l => ex ρ c l
def EVmk (X : Cx) (B : Bs) (ex : DEnv → Value → Option PyData → Prop) (ρ : DEnv) (C : Addr) (e : Expr) (o : MkO) : Prop := PE X e (tMk X.K B ρ C o ex)
section
variable {X : Cx} {B : Bs} {ρ : DEnv} {e : Expr} {es : List Expr} {pos p : Pos} {k : Nat} {C : Addr} {ps : List Str} {R : List PyData → MkO → Prop} {x : Str} {ds : List PyData} {E : DE}
theorem Tc.updN {G H : Hp} {a : Addr} {o : HO} (t : Tc G H) (no : ∀ xs, o ≠ .tup xs) : Tc G (upd H a o) := t.updH no
theorem evmk {o : MkO} {ex : DEnv → Value → Option PyData → Prop} (tk : TakesD X B ex) (D : MkAt X.prog X.w X.K X.mg X.base k x C ps R) (hr : Room (k + 1) X.A) (ha : AV X B ρ (e :: es) ds) (hR : R ds o) (hg : Gl X x := by rfl)
    (hdb : (x == ("__debug__" : Str)) = false := by decide) (he : starEach (e :: es) X.env = (false, eval e X.env) :: starEach es X.env := by rfl) (hpl : (backTo pos (starEach es X.env)).any (·.1) = false := by rfl) : EVmk X B ex ρ C (.Call (.Name x p) (e :: es) [] pos) o := by
  obtain ⟨f, fd, M, hm, hb, F⟩ := D.ex
  refine PE.imp (pe_makeX tk M F hr hg hm hb ha hdb he hpl) fun σ H Q ⟨G, en, kk⟩ => ⟨G, en, fun vs H1 G1 g1 p1 y dx hy hdx ne => ?_⟩
  have en1 := en.grow g1
  have gy : G1 y = none := en1.sub.free hy
  have gdx : G1 dx = none := en1.sub.free hdx
  have tc1 : Tc G1 H1 := g1.tc (en.gr.tc B.3)
  have sub : Same G1 (upd (upd H1 dx (.own y)) y (.ins C dx [])) := fun b o q => by
    rw [upd_ne (fun z => by rw [z, gy] at q; cases q), upd_ne (fun z => by rw [z, gdx] at q; cases q)]
    exact en1.sub b o q
  have t2 : Tc G1 (upd H1 dx (.own y)) := tc1.updH fun _ z => nomatch z
  have t3 : Tc G1 (upd (upd H1 dx (.own y)) y (.ins C dx [])) := t2.updH fun _ z => nomatch z
  refine ⟨y, dx, vs, G1, ds, o, rfl, upd_same, by rw [upd_ne ne, upd_same], gy, gdx, sub, t3, p1, hR, ?_⟩
  rw [sans_make hy hdx]
  have old : ∀ b, H1 b = none → H b = none := fun b hb => g1.hh.free hb
  cases o with
  | ok m =>
    intro l H' G' g gn hl hh
    refine ⟨rfl, kk y dx l H' G' (g1.trans g) (fun b hb => ?_) gn hh⟩
    rcases List.mem_cons.mp hb with z | z
    · rw [z]; exact old _ hy
    · rcases List.mem_cons.mp z with z | z
      · rw [z]; exact old _ hdx
      · rw [List.mem_singleton.mp z]
        refine old _ ?_
        by_cases z1 : l = y
        · rw [z1]; exact hy
        · by_cases z2 : l = dx
          · rw [z2]; exact hdx
          · rw [upd_ne z1, upd_ne z2] at hl; exact hl
  | bad c ln => exact fun d H' G' g xa => ⟨G', ρ, ln, en1.grow g, xa, kk⟩
/-- a making that raises -/
theorem evx_mkBad {c : Value} {ln : Option PyData} {ex : DEnv → Value → Option PyData → Prop} (h : EVmk X B ex ρ C e (.bad c ln)) : EVx X B ex ρ e (.exc c ln) := h
theorem movR.ne {K : PySem.W.Frag} {G H : Hp} {a dx l : Addr} {m : Mv} (hh : (movR K C a dx l m).holds (.ref a) (mvA a dx l) G H) : ∀ b ∈ mvA a dx l, H b ≠ none := fun b hb => by
  obtain ⟨_, _, vo, vs, h1, h2, h3, _⟩ := hh
  rcases List.mem_cons.mp hb with z | z
  · rw [z, h1]; exact fun z => nomatch z
  · rcases List.mem_cons.mp z with z | z
    · rw [z, h2]; exact fun z => nomatch z
    · rw [List.mem_singleton.mp z, h3]; exact fun z => nomatch z
/-- `Mover(..)` as a statement -/
theorem sd_exprMk {o : MkO} (he : EVmk X B E.ex ρ C e o) (h : ∀ m, o = .ok m → E.nx ρ) (hx : ∀ c l, o = .bad c l → E.ex ρ c l) (hs : swapsWith e none pos.line X.env = pure false := by rfl) : SD X B ρ (.Expr e pos) E :=
  PS.imp (ps_expr he hs) fun D σ H ⟨G, en, h1, _⟩ => by
    cases o with
    | ok m => exact ⟨G, en, fun a dx l H' G' g _ _ _ => h1 ρ σ G' H' g.gg (en.grow g) (h m rfl)⟩
    | bad c l => exact ⟨G, en, hx c l rfl⟩
/-- `x = Mover(..)` -/
theorem sd_setMk {m : Mv} {i : Nat} {pos' : Pos} (hN : X.N.Nodup) (he : EVmk X B E.ex ρ C e (.ok m)) (h : ∀ a dx l, E.nx (ρ.set i (.mov X.K C a dx l m))) (hi : X.N[i]? = some x := by rfl) (hx : Loc X.env.scope x := by first | exact Or.inl rfl | exact Or.inr rfl) (hs : swapsWith e (some (.Name x pos')) pos.line X.env = pure false := by rfl)
    (hf : X.fn x = true ∨ X.env.scope.names.lookup x = some .local := by first | exact .inl rfl | exact .inr rfl | assumption) : SD X B ρ (.Assign [.Name x pos'] e pos) E :=
  PS.imp (ps_set hN hi hx he hs hf) fun D σ H ⟨G, en, h1, _⟩ => ⟨G, en, fun a dx l H' G' g hn gn hh => h1 _ _ G' H' g.gg (en.setRes g (R := movR X.K C a dx l m) (nf := mvA a dx l) hh fun b hb => ⟨hn b hb, gn b hb, movR.ne hh b hb⟩) (h a dx l)⟩
end
end UP

/-! MV: the class and its methods, found by their names. -/
namespace UP
open PySem PySem.Spec L2
/-- the class -/
structure ClsM (K : PySem.W.Frag) (C : Addr) : Prop where
  cls : Cls K C
  no1 : NoAttr K C "order"
  no2 : NoAttr K C "steps"
  no3 : NoAttr K C "kept"
/-- its `__init__` -/
structure InitAt (K : PySem.W.Frag) (mg : Str → Option Value) (C : Addr) (st : Stmt) : Prop where
  ex : ∃ f fd, Fun K "__init__" "Mover.__init__" st f fd ∧ Mk K C f ∧ mg "Mover" = some (.ref C)
/-- a method -/
structure MethAt (K : PySem.W.Frag) (C : Addr) (x qual : Str) (st : Stmt) : Prop where
  ex : ∃ f fd, Fun K x qual st f fd ∧ Meth K C x f
/-- a method by what it does -/
structure Mn (P : Program) (w : World) (K : PySem.W.Frag) (mg : Str → Option Value) (base : Heap) (k : Nat) (C : Addr) (x : Str) (ps : List Str) (R : Mv → List PyData → Out → Mv → Prop) : Prop where
  ex : ∃ f fd, Meth K C x f ∧ Binds K fd ps [] ∧ FnM P w K mg base C k f fd ps R
section
variable {P : Program} {w : World} {K : PySem.W.Frag} {mg : Str → Option Value} {base : Heap}
theorem mk_of {st : Stmt} {N ps : List Str} {k : Nat} {C : Addr} {R : List PyData → MkO → Prop} (D : InitAt K mg C st) (S : FnScope N ps (defScope st))
    (hb : ∀ (kV doc pm : Value) (an : Option Addr) (cdv ct : Value) (us : List Value), us.length = ps.length → bindArgs (PySem.W.fnOf "__init__" "Mover.__init__" (defArgs st) (defBody st) (defScope st) .none kV doc pm an cdv ct) ⟨us, []⟩ = pure (ps.zip us))
    (hl : ∀ ds o, R ds o → ds.length + 1 = ps.length)
    (body : ∀ (f : Addr) (cdv : Value) (A : Around) (outer : List Env) (s : Shared) (H : Hp) (E : XK) (B : Bs) (a dx : Addr) (ds : List PyData) (o : MkO), R ds o → Room k (cxD P w K mg base N "Mover.__init__" st f cdv A outer s H E).A →
      TakesD (cxD P w K mg base N "Mover.__init__" st f cdv A outer s H E) B (fun _ c ln => o = .bad c ln) →
      SDs (cxD P w K mg base N "Mover.__init__" st f cdv A outer s H E) B (rhoM N (.res (insR K C a dx [] [])) ds) (defBody st) { nx := fun ρ => ∃ l m, o = .ok m ∧ ρ[0]? = some (.mov K C a dx l m), rt := fun _ _ => False, ex := fun _ c ln => o = .bad c ln }) : MkAt P w K mg base (k + 1) "Mover" C ps R := by
  obtain ⟨f, fd, F, M, g⟩ := D.ex
  exact ⟨f, fd, M, g, F.binds hb, fnI F S hl (fun cdv A outer s H E B a dx ds o => body f cdv A outer s H E B a dx ds o)⟩
theorem mn_of {x qual : Str} {st : Stmt} {N ps : List Str} {k : Nat} {C : Addr} {R : Mv → List PyData → Out → Mv → Prop} (D : MethAt K C x qual st) (S : FnScope N ps (defScope st))
    (hb : ∀ (kV doc pm : Value) (an : Option Addr) (cdv ct : Value) (us : List Value), us.length = ps.length → bindArgs (PySem.W.fnOf x qual (defArgs st) (defBody st) (defScope st) .none kV doc pm an cdv ct) ⟨us, []⟩ = pure (ps.zip us))
    (hl : ∀ m ds o m', R m ds o m' → ds.length + 1 = ps.length)
    (body : ∀ (f : Addr) (cdv : Value) (A : Around) (outer : List Env) (s : Shared) (H : Hp) (E : XK) (B : Bs) (a dx l : Addr) (m : Mv) (ds : List PyData) (o : Out) (m' : Mv), R m ds o m' → Room k (cxD P w K mg base N qual st f cdv A outer s H E).A →
      PassesOwn (model P w) (cxD P w K mg base N qual st f cdv A outer s H E).A (cxD P w K mg base N qual st f cdv A outer s H E).env (cxD P w K mg base N qual st f cdv A outer s H E).xe →
      TakesD (cxD P w K mg base N qual st f cdv A outer s H E) B (fun ρ c ln => o = .exc c ln ∧ ρ[0]? = some (.mov K C a dx l m')) →
      SDs (cxD P w K mg base N qual st f cdv A outer s H E) B (rhoM N (.mov K C a dx l m) ds) (defBody st) { nx := fun ρ => o = .ret .none ∧ ρ[0]? = some (.mov K C a dx l m'), rt := fun ρ d => o = .ret d ∧ ρ[0]? = some (.mov K C a dx l m'), ex := fun ρ c ln => o = .exc c ln ∧ ρ[0]? = some (.mov K C a dx l m') }) : Mn P w K mg base (k + 1) C x ps R := by
  obtain ⟨f, fd, F, M⟩ := D.ex
  exact ⟨f, fd, M, F.binds hb, fnM F S hl (fun cdv A outer s H E B a dx l m ds o m' => body f cdv A outer s H E B a dx l m ds o m')⟩
end
end UP

/-! MW: texts of weights. -/
namespace UP
open PySem PySem.Spec L2
section
variable {X : Cx} {B : Bs} {ρ : DEnv} {e o : Expr} {pos p apos : Pos}
/-- str(n) -/
theorem ev_strI {i : Int} (hm : X.mg "str" = none) (ha : EV X B ρ e (.int i)) (hi : i.natAbs.log2 < 1920) (hg : Gl X "str" := by rfl) (he : starEach [e] X.env = [(false, eval e X.env)] := by rfl) : EV X B ρ (.Call (.Name "str" p) [e] [] pos) (.str (toString i)) :=
  ev_callT1 call_str_int hm bt_str ha (fun v G H Q s pv k => by
    cases pv
    exact ⟨i, rfl, hi, k _ H G (Grow.refl s) (.str _)⟩) hg (by decide) (by decide) he
theorem strs_of {K : PySem.W.Frag} {G : Hp} : ∀ {vs : List V} {ys : List Str}, DqAll K G vs (ys.map PyData.str) → vs = ys.map V.str
  | [], [], .nil => rfl
  | _ :: _, _ :: _, .cons h1 h2 => by
    cases h1
    rw [strs_of h2]; rfl
/-- sep.join(list of texts) -/
theorem ev_join {a : Str} {ys : List Str} (ho : EV X B ρ o (.str a)) (ha : EVP X B ρ e (isSq X.K (ys.map PyData.str))) (hz : (ys.map (·.length)).sum + ys.length * a.length ≤ 16777216) (hs : starEach [e] X.env = [(false, eval e X.env)] := by rfl) (hbase : attributeBase o "join" X.env (eval o X.env) = eval o X.env := by rfl) (hline : (apos.endLine == pos.line) = true := by rfl) :
    EV X B ρ (.Call (.Attribute o "join" apos) [e] [] pos) (.str (Txt.join a ys)) := by
  refine PE.imp (pe_join ho ha hs hbase hline) fun σ H Q ⟨G, en, k⟩ => ⟨G, en, fun v H1 G1 g1 p1 => ?_⟩
  cases p1
  refine ⟨⟨a, rfl⟩, G1, en.grow g1, fun u H2 G2 g2 p2 => ?_⟩
  obtain ⟨q, vs, rfl, hq, z, dv⟩ := p2.get g2.sub
  have := strs_of dv
  subst this
  exact ⟨a, q, ys, rfl, rfl, hq, hz, k _ H2 G2 (g1.trans g2) (.str _)⟩
end
/-! ### the text of weights -/
def tokS (n : Nat) : Str := Str.ofString (toString (n : Int))
def textOf (a : List Nat) : Str := Txt.join (" " : Str) (a.map tokS)
theorem small_tok : ∀ n : Nat, n ≤ 9 → (tokS n).length = 1 ∧ ((n : Int).natAbs.log2 < 1920)
  | 0, _ | 1, _ | 2, _ | 3, _ | 4, _ | 5, _ | 6, _ | 7, _ | 8, _ | 9, _ => by decide +kernel
  | n + 10, h => by omega
theorem tok_sum : ∀ a : List Nat, (∀ x ∈ a, x ≤ 9) → ((a.map tokS).map (·.length)).sum = a.length
  | [], _ => rfl
  | x :: a, h => by
    rw [List.map_cons, List.map_cons, List.sum_cons, tok_sum a fun y hy => h y (List.mem_cons_of_mem _ hy), (small_tok x (h x (List.mem_cons_self ..))).1, List.length_cons, Nat.add_comm]
theorem IsW.nine {n : Nat} {a : List Nat} (h : IsW n a) : ∀ x ∈ a, x ≤ 9 := fun x hx => Nat.le_trans (le_sum hx) h.2
end UP

/-! MX: the mover as a value; methods that only look, methods that change it. -/
namespace UP
open PySem PySem.Spec L2
/-- the mover with its values fixed -/
def movV (K : PySem.W.Frag) (C a dx l : Addr) (vo : V) (vs : List V) (m : Mv) : Res where
  holds := fun v fp G H => v = .ref a ∧ fp = [a, dx, l] ∧ H a = some (movO C dx l vo m.kept) ∧ H dx = some (.own a) ∧ H l = some (.lst vs) ∧ vs.length ≤ sizeLine ∧ Dq K G vo (encO m.ord) ∧ DqAll K G vs (m.steps.map encR)
  stab := fun v fp G H G' H' ⟨e1, e2, h1, h2, h3, z, h4, h5⟩ g h => ⟨e1, e2, by rw [h a (by rw [e2]; simp)]; exact h1, by rw [h dx (by rw [e2]; simp)]; exact h2, by rw [h l (by rw [e2]; simp)]; exact h3, z, Dq.mono g _ h4, DqAll.mono g _ h5⟩
abbrev Slot.movV (K : PySem.W.Frag) (C a dx l : Addr) (vo : V) (vs : List V) (m : Mv) : Slot := .res (UP.movV K C a dx l vo vs m)
/-- a slot that holds the mover -/
def IsMov (K : PySem.W.Frag) (s : Slot) (C a dx l : Addr) (m : Mv) : Prop := ∃ R, s = .res R ∧ ∀ v fp G H, R.holds v fp G H → (movR K C a dx l m).holds v fp G H
theorem isMov_r {K : PySem.W.Frag} {C a dx l : Addr} {m : Mv} : IsMov K (.mov K C a dx l m) C a dx l m := ⟨_, rfl, fun _ _ _ _ h => h⟩
theorem isMov_v {K : PySem.W.Frag} {C a dx l : Addr} {vo : V} {vs : List V} {m : Mv} : IsMov K (.movV K C a dx l vo vs m) C a dx l m := ⟨_, rfl, fun _ _ _ _ ⟨e1, e2, r⟩ => ⟨e1, e2, vo, vs, r⟩⟩
/-- a value that is the mover -/
def isMv (K : PySem.W.Frag) (C a dx l : Addr) (m : Mv) : Pd := fun G H v => v = .ref a ∧ (movR K C a dx l m).holds (.ref a) (mvA a dx l) G H ∧ ∀ b ∈ mvA a dx l, G b = none
theorem stb_mv {K : PySem.W.Frag} {C a dx l : Addr} {m : Mv} : Stb (isMv K C a dx l m) := fun G H G' H' v g ⟨e, h, n⟩ => by
  have ne := movR.ne h
  exact ⟨e, (movR K C a dx l m).stab _ _ _ _ _ _ h g.gg fun b hb => Same.eq_of g.hh (ne b hb), fun b hb => g.sep b (ne b hb) (n b hb)⟩
section
variable {X : Cx} {B : Bs} {ρ : DEnv} {e o : Expr} {es : List Expr} {pos p apos : Pos} {C a dx l : Addr} {m m' : Mv} {x : Str}
theorem ev_mov (i : Nat) {s : Slot} (hρ : ρ[i]? = some s) (hs : IsMov X.K s C a dx l m) (hN : X.N[i]? = some x := by rfl) (hv : Vis X.env.scope x := by first | exact Or.inl rfl | exact Or.inr (Or.inl rfl) | exact Or.inr (Or.inr rfl))
    (hd : (x == ("__debug__" : Str)) = false := by decide) (hcd : (x == ("__classdict__" : Str)) = false := by decide) : EVP X B ρ (.Name x pos) (isMv X.K C a dx l m) := by
  obtain ⟨R, rfl, hR⟩ := hs
  refine PE.imp (pe_var (i := i) hN hv hd hcd) fun σ H Q ⟨G, en, k⟩ => ?_
  obtain ⟨v, nf, e, q, own⟩ := en.getRes hρ
  have q' := hR _ _ _ _ q
  obtain ⟨rfl, rfl, r⟩ := id q'
  exact ⟨_, e, k _ H G (Grow.refl en.sub) ⟨rfl, q', fun b hb => (own b hb).1⟩⟩
theorem ev_fO (ho : EVP X B ρ o (isMv X.K C a dx l m)) (c : ClsM X.K C) (hb : attributeBase o "order" X.env (eval o X.env) = eval o X.env := by rfl) : EV X B ρ (.Attribute o "order" pos) (encO m.ord) := by
  refine PE.imp (pe_fld ho hb) fun σ H Q ⟨G, en, k⟩ => ⟨G, en, fun v H1 G1 g1 ⟨e, ⟨_, _, vo, vs, h1, h2, h3, z, h4, h5⟩, n⟩ => ?_⟩
  exact ⟨a, C, dx, _, vo, e, h1, c.cls, c.no1, rfl, k vo H1 G1 g1 h4⟩
theorem ev_fS (ho : EVP X B ρ o (isMv X.K C a dx l m)) (c : ClsM X.K C) (hb : attributeBase o "steps" X.env (eval o X.env) = eval o X.env := by rfl) : EVo X B ρ (.Attribute o "steps" pos) (.list (m.steps.map encR)) := by
  refine PE.imp (pe_fld ho hb) fun σ H Q ⟨G, en, k⟩ => ⟨G, en, fun v H1 G1 g1 ⟨e, ⟨_, _, vo, vs, h1, h2, h3, z, h4, h5⟩, n⟩ => ?_⟩
  exact ⟨a, C, dx, _, .ref l, e, h1, c.cls, c.no2, rfl, k _ H1 G1 g1 (.inr ⟨l, vs, _, rfl, rfl, h3, z, h5⟩)⟩
theorem ev_fK (ho : EVP X B ρ o (isMv X.K C a dx l m)) (c : ClsM X.K C) (hb : attributeBase o "kept" X.env (eval o X.env) = eval o X.env := by rfl) : EV X B ρ (.Attribute o "kept" pos) (encN m.kept) := by
  refine PE.imp (pe_fld ho hb) fun σ H Q ⟨G, en, k⟩ => ⟨G, en, fun v H1 G1 g1 ⟨e, ⟨_, _, vo, vs, h1, h2, h3, z, h4, h5⟩, n⟩ => ?_⟩
  exact ⟨a, C, dx, _, .int m.kept, e, h1, c.cls, c.no3, rfl, k _ H1 G1 g1 (.int _)⟩
end
/-! ### methods that only look -/
def spV (K : PySem.W.Frag) (C : Addr) (R : Mv → List PyData → Out → Prop) : Sp := fun vs H Q E => ∃ a dx l us G m ds o, vs = .ref a :: us ∧ Same G H ∧ Tc G H ∧ (movR K C a dx l m).holds (.ref a) (mvA a dx l) G H ∧ (∀ b ∈ mvA a dx l, G b = none) ∧ DqAll K G us ds ∧ R m ds o ∧ match o with
  | .ret d => ∀ v H' G', Grow G H G' H' → Dq K G' v d → Q v H'
  | .exc c ln => ∀ d H' G', Grow G H G' H' → XAt K G' H' d ln → E c d H'
theorem grow_sans {G H G' H' : Hp} {fp : List Addr} (g : Grow G (sans H fp) G' H') (e : ∀ b ∈ fp, H' b = H b) (n : ∀ b ∈ fp, G' b = none) : Grow G H G' H' := by
  refine ⟨g.gg, fun b o q => ?_, g.sub, fun b q r => ?_, fun t => g.tc (t.sans _)⟩
  · by_cases hb : b ∈ fp
    · rw [e b hb]; exact q
    · exact g.hh b o (by rw [sans_out hb]; exact q)
  · by_cases hb : b ∈ fp
    · exact n b hb
    · exact g.sep b (by rw [sans_out hb]; exact q) r
theorem movV.eq {K : PySem.W.Frag} {C a dx l : Addr} {vo : V} {vs : List V} {m : Mv} {v v' : V} {fp fp' : List Addr} {G H G' H' : Hp} (h : (movV K C a dx l vo vs m).holds v fp G H) (h' : (movV K C a dx l vo vs m).holds v' fp' G' H') : ∀ b ∈ mvA a dx l, H' b = H b := fun b hb => by
  obtain ⟨_, _, h1, h2, h3, _⟩ := h
  obtain ⟨_, _, h1', h2', h3', _⟩ := h'
  rcases List.mem_cons.mp hb with z | z
  · rw [z, h1, h1']
  · rcases List.mem_cons.mp z with z | z
    · rw [z, h2, h2']
    · rw [List.mem_singleton.mp z, h3, h3']
theorem En.start1 {K : PySem.W.Frag} {G H : Hp} {N : List Str} {us : List V} {ds : List PyData} {a : Addr} {R : Res} {fp0 : List Addr} (s : Same G H) (t : Tc G H) (hh : R.holds (.ref a) fp0 G H) (ne : ∀ b ∈ fp0, H b ≠ none) (hg : ∀ b ∈ fp0, G b = none) (h : DqAll K G us ds) :
    En K ⟨G, sans H fp0, t.sans _⟩ G H (L2.start N (.ref a :: us)) (rhoM N (.res R) ds) := by
  have hl := h.length
  refine ⟨⟨Same.refl _, fun b o e => (sans_some e).2, s, fun _ _ e => e, fun _ => t⟩, ?_, fun i => if i = 0 then fp0 else [], fun i sl o h1 h2 => ?_, fun i k b h1 h2 => ?_, fun i b hb => ?_⟩
  · unfold L2.start rhoM
    simp [hl]
  · cases i with
    | zero =>
      have h1' : some (Slot.res R) = some sl := h1
      have h2' : some (some (V.ref a)) = some o := h2
      cases h1'; cases h2'
      exact ⟨.ref a, rfl, by rw [if_pos rfl]; exact hh⟩
    | succ i =>
      rw [if_neg (Nat.succ_ne_zero i)]
      have h1 : (ds.map Slot.d ++ List.replicate (N.length - (ds.length + 1)) .un)[i]? = some sl := h1
      have h2 : (us.map some ++ List.replicate (N.length - (us.length + 1)) none)[i]? = some o := h2
      by_cases hi : i < ds.length
      · rw [List.getElem?_append_left (by rw [List.length_map]; exact hi), List.getElem?_map] at h1
        rw [List.getElem?_append_left (by rw [List.length_map, hl]; exact hi), List.getElem?_map] at h2
        obtain ⟨v, hv, dd⟩ := DqAll.get' h (List.getElem?_eq_getElem hi)
        rw [List.getElem?_eq_getElem hi] at h1
        rw [hv] at h2
        cases h1; cases h2
        exact ⟨rfl, v, rfl, dd⟩
      · rw [List.getElem?_append_right (by rw [List.length_map]; omega)] at h1
        have : sl = .un := by
          rw [List.getElem?_replicate] at h1
          split at h1
          · exact (Option.some.inj h1).symm
          · cases h1
        subst this
        rfl
  · by_cases zi : i = 0
    · by_cases zk : k = 0
      · omega
      · rw [if_neg zk] at h2; cases h2
    · rw [if_neg zi] at h1; cases h1
  · by_cases zi : i = 0
    · rw [if_pos zi] at hb
      exact ⟨hg b hb, sans_in hb, ne b hb⟩
    · rw [if_neg zi] at hb; cases hb
theorem En.movV {K : PySem.W.Frag} {B : Bs} {G H : Hp} {σ : L2.St} {ρ : DEnv} {j : Nat} {C a dx l : Addr} {vo : V} {vs : List V} {m : Mv} (en : En K B G H σ ρ) (h : ρ[j]? = some (.movV K C a dx l vo vs m)) : (UP.movV K C a dx l vo vs m).holds (.ref a) (mvA a dx l) G H ∧ ∀ b ∈ mvA a dx l, G b = none := by
  obtain ⟨v, nf, e, q, own⟩ := en.getRes h
  obtain ⟨e1, e2, r⟩ := id q
  subst e1 e2
  exact ⟨⟨rfl, rfl, r⟩, fun b hb => (own b hb).1⟩
section
variable {P : Program} {w : World} {K : PySem.W.Frag} {mg : Str → Option Value} {base : Heap}
abbrev FnV (P : Program) (w : World) (K : PySem.W.Frag) (mg : Str → Option Value) (base : Heap) (C : Addr) (k : Nat) (f : Addr) (fd : FuncData) (ps : List Str) (R : Mv → List PyData → Out → Prop) : Prop := FnOk P w K mg base (L2.CX P w) k f fd ps (spV K C R)
theorem fnV {x qual : Str} {st : Stmt} {f : Addr} {fd : FuncData} {N ps : List Str} {k : Nat} {C : Addr} {R : Mv → List PyData → Out → Prop} (F : Fun K x qual st f fd) (S : FnScope N ps (defScope st)) (hl : ∀ m ds o, R m ds o → ds.length + 1 = ps.length)
    (body : ∀ (cdv : Value) (A : Around) (outer : List Env) (s : Shared) (H : Hp) (E : XK) (B : Bs) (a dx l : Addr) (vo : V) (vs : List V) (m : Mv) (ds : List PyData) (o : Out), R m ds o → Room k (cxD P w K mg base N qual st f cdv A outer s H E).A →
      PassesOwn (model P w) (cxD P w K mg base N qual st f cdv A outer s H E).A (cxD P w K mg base N qual st f cdv A outer s H E).env (cxD P w K mg base N qual st f cdv A outer s H E).xe →
      TakesD (cxD P w K mg base N qual st f cdv A outer s H E) B (fun ρ c ln => o = .exc c ln ∧ ρ[0]? = some (.movV K C a dx l vo vs m)) →
      SDs (cxD P w K mg base N qual st f cdv A outer s H E) B (rhoM N (.movV K C a dx l vo vs m) ds) (defBody st) { nx := fun ρ => o = .ret .none ∧ ρ[0]? = some (.movV K C a dx l vo vs m), rt := fun ρ d => o = .ret d ∧ ρ[0]? = some (.movV K C a dx l vo vs m), ex := fun ρ c ln => o = .exc c ln ∧ ρ[0]? = some (.movV K C a dx l vo vs m) }) : FnV P w K mg base C (k + 1) f fd ps R := by
  refine F.okX S (fun vs H Q E ⟨a, dx, l, us, G, m, ds, o, e, _, _, _, _, hd, hR, _⟩ => by rw [e, List.length_cons, hd.length]; exact hl m ds o hR) fun cdv A outer s H vs Q E hr ⟨a, dx, l, us, G, m, ds, o, e, sG, tG, hh, hg, hd, hR, q⟩ => ?_
  subst e
  have ne := movR.ne hh
  obtain ⟨_, _, vo, ws, r⟩ := hh
  have hv : (UP.movV K C a dx l vo ws m).holds (.ref a) (mvA a dx l) G H := ⟨rfl, rfl, r⟩
  have back : ∀ {G' H' σ' ρ'}, En K ⟨G, sans H (mvA a dx l), tG.sans _⟩ G' H' σ' ρ' → ρ'[0]? = some (.movV K C a dx l vo ws m) → Grow G H G' H' := fun en e0 => by
    obtain ⟨q1, q2⟩ := en.movV e0
    exact grow_sans en.gr (movV.eq hv q1) q2
  have tk0 : Takes (cxD P w K mg base N qual st f cdv A outer s H E) (fun cls d _ H => E cls d H) := takes_of rfl rfl rfl rfl
  have tk : TakesD (cxD P w K mg base N qual st f cdv A outer s H E) ⟨G, sans H (mvA a dx l), tG.sans _⟩ (fun ρ c ln => o = .exc c ln ∧ ρ[0]? = some (.movV K C a dx l vo ws m)) := by
    refine tk0.imp fun c d σ H' ⟨G', ρ', ln, en, xa, e, e0⟩ => ?_
    subst e
    exact q d H' G' (back en e0) xa
  refine ⟨_, body cdv A outer s H E ⟨G, sans H (mvA a dx l), tG.sans _⟩ a dx l vo ws m ds o hR hr (passes_of rfl) tk, G, En.start1 sG tG hv ne hg hd, fun ρ' σ' G' H' s' en' e => ?_, fun ρ' d v σ' G' H' s' en' dd e => ?_, fun _ _ _ _ _ _ z => z.elim, fun _ _ _ _ _ _ z => z.elim⟩
  · obtain ⟨e, e0⟩ : o = .ret .none ∧ ρ'[0]? = some (.movV K C a dx l vo ws m) := e
    subst e
    exact q .non H' G' (back en' e0) .non
  · obtain ⟨e, e0⟩ : o = .ret d ∧ ρ'[0]? = some (.movV K C a dx l vo ws m) := e
    subst e
    exact q v H' G' (back en' e0) dd
structure Vn (P : Program) (w : World) (K : PySem.W.Frag) (mg : Str → Option Value) (base : Heap) (k : Nat) (C : Addr) (x : Str) (ps : List Str) (R : Mv → List PyData → Out → Prop) : Prop where
  ex : ∃ f fd, Meth K C x f ∧ Binds K fd ps [] ∧ FnV P w K mg base C k f fd ps R
theorem vn_of {x qual : Str} {st : Stmt} {N ps : List Str} {k : Nat} {C : Addr} {R : Mv → List PyData → Out → Prop} (D : MethAt K C x qual st) (S : FnScope N ps (defScope st))
    (hb : ∀ (kV doc pm : Value) (an : Option Addr) (cdv ct : Value) (us : List Value), us.length = ps.length → bindArgs (PySem.W.fnOf x qual (defArgs st) (defBody st) (defScope st) .none kV doc pm an cdv ct) ⟨us, []⟩ = pure (ps.zip us))
    (hl : ∀ m ds o, R m ds o → ds.length + 1 = ps.length)
    (body : ∀ (f : Addr) (cdv : Value) (A : Around) (outer : List Env) (s : Shared) (H : Hp) (E : XK) (B : Bs) (a dx l : Addr) (vo : V) (vs : List V) (m : Mv) (ds : List PyData) (o : Out), R m ds o → Room k (cxD P w K mg base N qual st f cdv A outer s H E).A →
      PassesOwn (model P w) (cxD P w K mg base N qual st f cdv A outer s H E).A (cxD P w K mg base N qual st f cdv A outer s H E).env (cxD P w K mg base N qual st f cdv A outer s H E).xe →
      TakesD (cxD P w K mg base N qual st f cdv A outer s H E) B (fun ρ c ln => o = .exc c ln ∧ ρ[0]? = some (.movV K C a dx l vo vs m)) →
      SDs (cxD P w K mg base N qual st f cdv A outer s H E) B (rhoM N (.movV K C a dx l vo vs m) ds) (defBody st) { nx := fun ρ => o = .ret .none ∧ ρ[0]? = some (.movV K C a dx l vo vs m), rt := fun ρ d => o = .ret d ∧ ρ[0]? = some (.movV K C a dx l vo vs m), ex := fun ρ c ln => o = .exc c ln ∧ ρ[0]? = some (.movV K C a dx l vo vs m) }) : Vn P w K mg base (k + 1) C x ps R := by
  obtain ⟨f, fd, F, M⟩ := D.ex
  exact ⟨f, fd, M, F.binds hb, fnV F S hl (fun cdv A outer s H E B a dx l vo vs m ds o => body f cdv A outer s H E B a dx l vo vs m ds o)⟩
end
section
variable {X : Cx} {B : Bs} {ρ : DEnv} {e o : Expr} {es : List Expr} {pos p apos : Pos} {C a dx l : Addr} {m m' : Mv} {x : Str} {k : Nat} {ps : List Str} {ds : List PyData} {d : PyData}
/-- o.x() of a method that only looks -/
theorem ev_mV0 {pl : Sem Bool} {R : Mv → List PyData → Out → Prop} (c : ClsM X.K C) (D : Vn X.prog X.w X.K X.mg X.base k C x ps R) (hr : Room k X.A) (ho : EVP X B ρ o (isMv X.K C a dx l m)) (hR : R m [] (.ret d)) (hn : ([("order", V.non), ("steps", V.non), ("kept", V.non)] : List (Str × V)).lookup x = none := by rfl)
    (ht : eval (.Call (.Attribute o x apos) [] [] pos) X.env = (eval o X.env >>= fun ov => standAt apos.atName >>= fun _ => holding [ov] (getMethod ov x pl) >>= fun r => callWith pos r.1 r.2 (backTo pos (starEach [] X.env)) (backToKw pos (keywordEach [] X.env))) := by rfl) : EV X B ρ (.Call (.Attribute o x apos) [] [] pos) d := by
  obtain ⟨f, fd, M, hb, F⟩ := D.ex
  refine PE.imp (pe_meth0 (pl := pl) (dvs := []) (ds := []) ho c.cls M F hr hb .nil passL ht) fun σ H Q ⟨G, en, k⟩ => ⟨G, en, fun v H1 G1 g1 ⟨e, hh, n⟩ => ?_⟩
  obtain ⟨_, _, vo, vs, h1, r⟩ := id hh
  refine ⟨a, dx, _, e, h1, ?_, ?_⟩
  · cases e1 : (x == ("order" : Str)) <;> cases e2 : (x == ("steps" : Str)) <;> cases e3 : (x == ("kept" : Str)) <;> simp only [List.lookup, e1, e2, e3] at hn ⊢ <;> cases hn
  · subst e
    exact ⟨a, dx, l, [], G1, m, [], .ret d, rfl, g1.sub, g1.tc (en.gr.tc B.3), hh, n, .nil, hR, fun v H' G' g pp => k v H' G' (g1.trans g) pp⟩
/-- o.x(e, ..) of a method that only looks -/
theorem ev_mV {pl : Sem Bool} {R : Mv → List PyData → Out → Prop} (c : ClsM X.K C) (D : Vn X.prog X.w X.K X.mg X.base k C x ps R) (hr : Room k X.A) (ho : EVP X B ρ o (isMv X.K C a dx l m)) (ha : AV X B ρ (e :: es) ds) (hR : R m ds (.ret d)) (hn : ([("order", V.non), ("steps", V.non), ("kept", V.non)] : List (Str × V)).lookup x = none := by rfl)
    (hst : starEach (e :: es) X.env = (false, eval e X.env) :: starEach es X.env := by rfl) (hpl : (backTo pos (starEach es X.env)).any (·.1) = false := by rfl)
    (ht : eval (.Call (.Attribute o x apos) (e :: es) [] pos) X.env = (eval o X.env >>= fun ov => standAt apos.atName >>= fun _ => holding [ov] (getMethod ov x pl) >>= fun r => callWith pos r.1 r.2 (backTo pos (starEach (e :: es) X.env)) (backToKw pos (keywordEach [] X.env))) := by rfl) : EV X B ρ (.Call (.Attribute o x apos) (e :: es) [] pos) d := by
  obtain ⟨f, fd, M, hb, F⟩ := D.ex
  refine PE.imp (pe_meth (pl := pl) (dvs := []) (ds := []) ho c.cls M F hr hb .nil passL ha hst hpl ht) fun σ H Q ⟨G, en, k⟩ => ⟨G, en, fun v H1 G1 g1 ⟨e, hh, n⟩ => ?_⟩
  obtain ⟨_, _, vo, vs, h1, r⟩ := id hh
  refine ⟨a, dx, _, e, h1, ?_, ?_⟩
  · cases e1 : (x == ("order" : Str)) <;> cases e2 : (x == ("steps" : Str)) <;> cases e3 : (x == ("kept" : Str)) <;> simp only [List.lookup, e1, e2, e3] at hn ⊢ <;> cases hn
  · subst e
    refine ⟨G1, en.grow g1, fun us H2 G2 g2 p2 => ?_⟩
    obtain ⟨_, hh2, n2⟩ := stb_mv G1 H1 G2 H2 (.ref a) g2 ⟨rfl, hh, n⟩
    show spV X.K C R (.ref a :: (us ++ [])) H2 Q E0
    rw [List.append_nil]
    exact ⟨a, dx, l, us, G2, m, ds, .ret d, rfl, g2.sub, g2.tc (g1.tc (en.gr.tc B.3)), hh2, n2, p2, hR, fun v H' G' g pp => k v H' G' ((g1.trans g2).trans g) pp⟩
end
/-! ### expressions that change a mover -/
def tM (K : PySem.W.Frag) (B : Bs) (ρ : DEnv) (o : Out) (ρ' : DEnv) (ex : DEnv → Value → Option PyData → Prop) : TE := fun σ H Q => ∃ G, En K B G H σ ρ ∧ match o with
  | .ret d => ∀ v H' G', Same G G' → En K B G' H' σ ρ' → Dq K G' v d → Q v H'
  | .exc c l => ex ρ' c l
def EVm (X : Cx) (B : Bs) (ex : DEnv → Value → Option PyData → Prop) (ρ : DEnv) (e : Expr) (o : Out) (ρ' : DEnv) : Prop := PE X e (tM X.K B ρ o ρ' ex)
def TVm (X : Cx) (B : Bs) (ρ : DEnv) (e : Expr) (b : Bool) (ρ' : DEnv) : Prop := PT X e (fun σ H Q => ∃ G, En X.K B G H σ ρ ∧ ∀ H' G', Same G G' → En X.K B G' H' σ ρ' → Q b H')
def WVm (X : Cx) (B : Bs) (ρ : DEnv) (e : Expr) (b : Bool) (ρ' : DEnv) : Prop := PW X e (fun σ H Q => ∃ G, En X.K B G H σ ρ ∧ ∀ H' G', Same G G' → En X.K B G' H' σ ρ' → Q b H')
section
variable {X : Cx} {B : Bs} {ρ ρ' ρ'' : DEnv} {e o b' : Expr} {es : List Expr} {pos p apos : Pos} {C a dx l : Addr} {m m' : Mv} {x y : Str} {k j : Nat} {ps : List Str} {ds : List PyData} {d d' : PyData} {ot : Out} {ex : DEnv → Value → Option PyData → Prop} {R : Mv → List PyData → Out → Mv → Prop} {E : DE}
theorem evm_x (h : EVx X B ex ρ e ot) : EVm X B ex ρ e ot ρ := PE.imp h fun σ H Q ⟨G, en, k⟩ => ⟨G, en, by
  cases ot with
  | ret d => exact fun v H' G' g p => k v H' G' g.gg (en.grow g) p
  | exc c l => exact k⟩
theorem tvm {c : Bool} (h : TV X B ρ e c) : TVm X B ρ e c ρ := PT.imp h fun σ H Q ⟨G, en, k⟩ => ⟨G, en, fun H' G' g => k H' G' g.gg (en.grow g)⟩
theorem En.mv {K : PySem.W.Frag} {G H : Hp} {σ : L2.St} (en : En K B G H σ ρ) (h : ρ[j]? = some (.mov K C a dx l m)) : isMv K C a dx l m G H (.ref a) := ⟨rfl, (en.mov h).2.1, (en.mov h).2.2⟩
/-- o.x(e, ..) -/
theorem evm_meth {pl : Sem Bool} (tk : TakesD X B ex) (c : ClsM X.K C) (D : Mn X.prog X.w X.K X.mg X.base k C x ps R) (hr : Room k X.A) (hρ : ρ[j]? = some (.mov X.K C a dx l m)) (ha : AV X B ρ (e :: es) ds) (hR : R m ds ot m') (hN : X.N[j]? = some y := by rfl) (hv : Vis X.env.scope y := by first | exact Or.inl rfl | exact Or.inr (Or.inl rfl) | exact Or.inr (Or.inr rfl))
    (hd : (y == ("__debug__" : Str)) = false := by decide) (hcd : (y == ("__classdict__" : Str)) = false := by decide) (hn : ([("order", V.non), ("steps", V.non), ("kept", V.non)] : List (Str × V)).lookup x = none := by rfl)
    (hst : starEach (e :: es) X.env = (false, eval e X.env) :: starEach es X.env := by rfl) (hpl : (backTo pos (starEach es X.env)).any (·.1) = false := by rfl)
    (ht : eval (.Call (.Attribute (.Name y p) x apos) (e :: es) [] pos) X.env = (eval (.Name y p) X.env >>= fun ov => standAt apos.atName >>= fun _ => holding [ov] (getMethod ov x pl) >>= fun r => callWith pos r.1 r.2 (backTo pos (starEach (e :: es) X.env)) (backToKw pos (keywordEach [] X.env))) := by rfl) :
    EVm X B ex ρ (.Call (.Attribute (.Name y p) x apos) (e :: es) [] pos) ot (ρ.set j (.mov X.K C a dx l m')) := by
  obtain ⟨f, fd, M, hb, F⟩ := D.ex
  refine PE.imp (pe_methX (pl := pl) tk (pe_var (i := j) hN hv hd hcd) c.cls M F hr hb ha hst hpl ht) fun σ H Q ⟨G, en, k⟩ => ?_
  obtain ⟨e1, hh, n⟩ := en.mov hρ
  obtain ⟨_, _, vo, vs, h1, r⟩ := id hh
  refine ⟨_, e1, a, dx, _, rfl, h1, ?_, G, en, fun us H2 G2 g2 p2 => ?_⟩
  · cases e1 : (x == ("order" : Str)) <;> cases e2 : (x == ("steps" : Str)) <;> cases e3 : (x == ("kept" : Str)) <;> simp only [List.lookup, e1, e2, e3] at hn ⊢ <;> cases hn
  · have en2 := en.grow g2
    obtain ⟨_, hh2, n2⟩ := en2.mov hρ
    refine ⟨a, dx, l, us, G2, m, ds, ot, m', rfl, en2.sub, en2.gr.tc B.3, hh2, n2, p2, hR, ?_⟩
    cases ot with
    | ret d => exact fun v H' G' g gn hm pp => k v H' G' (g2.gg.trans g.gg) (en2.meth hρ g gn hm) pp
    | exc c l => exact fun d H' G' g gn hm xa => ⟨G', _, l, en2.meth hρ g gn hm, xa, k⟩
theorem evm_meth0 {pl : Sem Bool} (tk : TakesD X B ex) (c : ClsM X.K C) (D : Mn X.prog X.w X.K X.mg X.base k C x ps R) (hr : Room k X.A) (hρ : ρ[j]? = some (.mov X.K C a dx l m)) (hR : R m [] ot m') (hN : X.N[j]? = some y := by rfl) (hv : Vis X.env.scope y := by first | exact Or.inl rfl | exact Or.inr (Or.inl rfl) | exact Or.inr (Or.inr rfl))
    (hd : (y == ("__debug__" : Str)) = false := by decide) (hcd : (y == ("__classdict__" : Str)) = false := by decide) (hn : ([("order", V.non), ("steps", V.non), ("kept", V.non)] : List (Str × V)).lookup x = none := by rfl)
    (ht : eval (.Call (.Attribute (.Name y p) x apos) [] [] pos) X.env = (eval (.Name y p) X.env >>= fun ov => standAt apos.atName >>= fun _ => holding [ov] (getMethod ov x pl) >>= fun r => callWith pos r.1 r.2 (backTo pos (starEach [] X.env)) (backToKw pos (keywordEach [] X.env))) := by rfl) :
    EVm X B ex ρ (.Call (.Attribute (.Name y p) x apos) [] [] pos) ot (ρ.set j (.mov X.K C a dx l m')) := by
  obtain ⟨f, fd, M, hb, F⟩ := D.ex
  refine PE.imp (pe_meth0X (pl := pl) tk (pe_var (i := j) hN hv hd hcd) c.cls M F hr hb ht) fun σ H Q ⟨G, en, k⟩ => ?_
  obtain ⟨e1, hh, n⟩ := en.mov hρ
  obtain ⟨_, _, vo, vs, h1, r⟩ := id hh
  refine ⟨_, e1, a, dx, _, rfl, h1, ?_, ?_⟩
  · cases e1 : (x == ("order" : Str)) <;> cases e2 : (x == ("steps" : Str)) <;> cases e3 : (x == ("kept" : Str)) <;> simp only [List.lookup, e1, e2, e3] at hn ⊢ <;> cases hn
  · refine ⟨a, dx, l, [], G, m, [], ot, m', rfl, en.sub, en.gr.tc B.3, hh, n, .nil, hR, ?_⟩
    cases ot with
    | ret d => exact fun v H' G' g gn hm pp => k v H' G' g.gg (en.meth hρ g gn hm) pp
    | exc c l => exact fun d H' G' g gn hm xa => ⟨G', _, l, en.meth hρ g gn hm, xa, k⟩
end
end UP

/-! MY: statements that change a mover; calls that get it; len, str, == of it. -/
namespace UP
open PySem PySem.Spec L2
section
variable {K : PySem.W.Frag} {G H : Hp} {C a dx l : Addr} {m : Mv}
theorem mv_kinds (hh : (movR K C a dx l m).holds (.ref a) (mvA a dx l) G H) : dx ≠ a ∧ l ≠ a ∧ l ≠ dx ∧ ∀ b ∈ mvA a dx l, ∀ xs, H b ≠ some (.tup xs) := by
  obtain ⟨_, _, vo, vs, h1, h2, h3, _⟩ := hh
  refine ⟨(fun z => by rw [z, h1] at h2; cases h2), (fun z => by rw [z, h1] at h3; cases h3), (fun z => by rw [z, h2] at h3; cases h3), fun b hb xs => ?_⟩
  rcases List.mem_cons.mp hb with z | z
  · rw [z, h1]; exact fun z => nomatch z
  · rcases List.mem_cons.mp z with z | z
    · rw [z, h2]; exact fun z => nomatch z
    · rw [List.mem_singleton.mp z, h3]; exact fun z => nomatch z
theorem mv_put {vs' : List V} {ws : List (List Nat)} (s : Same G H) (hh : (movR K C a dx l m).holds (.ref a) (mvA a dx l) G H) (gn : ∀ b ∈ mvA a dx l, G b = none) (hz : vs'.length ≤ sizeLine) (hd : DqAll K G vs' (ws.map encR)) :
    Grow G (sans H (mvA a dx l)) G (upd H l (.lst vs')) ∧ (movR K C a dx l ⟨m.ord, ws, m.kept⟩).holds (.ref a) (mvA a dx l) G (upd H l (.lst vs')) := by
  obtain ⟨n1, n2, n3, nt⟩ := mv_kinds hh
  obtain ⟨_, _, vo, vs, h1, h2, h3, z, h4, h5⟩ := hh
  refine ⟨⟨Same.refl _, fun b o q => ?_, fun b o q => ?_, fun _ _ e => e, fun t b xs q => ?_⟩, rfl, rfl, vo, vs', ?_, ?_, upd_same, hz, h4, hd⟩
  · obtain ⟨q1, q2⟩ := sans_some q
    rw [upd_ne (fun z => q1 (by rw [z]; simp))]
    exact q2
  · rw [upd_ne (fun z => by rw [z, gn l (by simp)] at q; cases q)]
    exact s b o q
  · by_cases hb : b ∈ mvA a dx l
    · by_cases e : b = l
      · rw [e, upd_same] at q; cases q
      · rw [upd_ne e] at q; exact absurd q (nt b hb xs)
    · rw [upd_ne (fun z => hb (by rw [z]; simp))] at q
      exact t b xs (by rw [sans_out hb]; exact q)
  · rw [upd_ne (Ne.symm n2)]; exact h1
  · rw [upd_ne (Ne.symm n3)]; exact h2
end
section
variable {X : Cx} {B : Bs} {ρ ρ' ρ'' : DEnv} {e o b' : Expr} {es : List Expr} {pos pos' p apos apos2 : Pos} {C a dx l : Addr} {m m' : Mv} {x y : Str} {k j : Nat} {ps : List Str} {ds : List PyData} {d d' : PyData} {ot : Out} {ex : DEnv → Value → Option PyData → Prop} {R : Mv → List PyData → Out → Mv → Prop} {E : DE}
/-- self.steps.append(e) -/
theorem sd_stepsAppend {w : List Nat} (c : ClsM X.K C) (hρ : ρ[j]? = some (.mov X.K C a dx l m)) (he : EV X B ρ e (encR w)) (hz : m.steps.length < 1000) (h : E.nx (ρ.set j (.mov X.K C a dx l ⟨m.ord, m.steps ++ [w], m.kept⟩))) (hN : X.N[j]? = some y := by rfl) (hv : Vis X.env.scope y := by first | exact Or.inl rfl | exact Or.inr (Or.inl rfl) | exact Or.inr (Or.inr rfl))
    (hd : (y == ("__debug__" : Str)) = false := by decide) (hcd : (y == ("__classdict__" : Str)) = false := by decide) (hb1 : attributeBase (.Name y p) "steps" X.env (eval (.Name y p) X.env) = eval (.Name y p) X.env := by rfl)
    (hbase : attributeBase (.Attribute (.Name y p) "steps" apos2) "append" X.env (eval (.Attribute (.Name y p) "steps" apos2) X.env) = eval (.Attribute (.Name y p) "steps" apos2) X.env := by rfl)
    (hfew : ((backTo pos (starEach [e] X.env)).all (fun x => !x.1) && (backToKw pos (keywordEach [] X.env)).all (fun x => x.1.isSome) && decide (([e] : List Expr).length + ([] : List Keyword).length + (if ([] : List Keyword).isEmpty then 0 else 1) < 30)) = true := by rfl)
    (hline : (apos.endLine == pos.line) = true := by rfl) (hst : starEach [e] X.env = [(false, eval e X.env)] := by rfl) (hpl : (backTo pos (starEach [] X.env)).any (·.1) = false := by rfl)
    (hs : swapsWith (.Call (.Attribute (.Attribute (.Name y p) "steps" apos2) "append" apos) [e] [] pos) none pos'.line X.env = pure false := by rfl) : SD X B ρ (.Expr (.Call (.Attribute (.Attribute (.Name y p) "steps" apos2) "append" apos) [e] [] pos) pos') E := by
  refine PS.imp (ps_expr (pe_bm PySem.F.plainAttrs_list PySem.F.slot_list_append PySem.F.type_list_append mt_append (pe_fld (pe_var (i := j) hN hv hd hcd) hb1) (pa_cons he pa_nil hst) hbase hfew hline hst hpl) hs) fun D σ H ⟨G, en, h1, _⟩ => ?_
  obtain ⟨e1, hh, n⟩ := en.mov hρ
  obtain ⟨_, _, vo, vs, r1, r2, r3, z, r4, r5⟩ := id hh
  refine ⟨_, e1, a, C, dx, _, .ref l, rfl, r1, c.cls, c.no2, rfl, .inl ⟨rfl, _, .inl (.inl r3)⟩, G, en, fun v H' G' g pp => ?_⟩
  have en' := en.grow g
  obtain ⟨_, hh', n'⟩ := en'.mov hρ
  have hl : vs.length < 1000 := by rw [r5.length, List.length_map]; exact hz
  have hl2 : vs.length < sizeLine := Nat.lt_of_lt_of_le hl (Nat.le_of_lt (small1000 (Nat.le_refl _)))
  have dv : DqAll X.K G' (vs ++ [v]) ((m.steps ++ [w]).map encR) := by rw [List.map_append]; exact DqAll.append (DqAll.mono g.gg _ r5) (.cons pp .nil)
  obtain ⟨q1, q2⟩ := mv_put en'.sub hh' n' (by rw [List.length_append]; exact hl2) dv
  exact ⟨l, vs, v, rfl, rfl, g.hh _ _ r3, hl2, h1 _ σ G' _ g.gg (en'.meth hρ q1 n' q2) h⟩
/-- self.steps.pop() -/
theorem sd_stepsPop (c : ClsM X.K C) (hρ : ρ[j]? = some (.mov X.K C a dx l m)) (hne : m.steps ≠ []) (h : E.nx (ρ.set j (.mov X.K C a dx l ⟨m.ord, m.steps.dropLast, m.kept⟩))) (hN : X.N[j]? = some y := by rfl) (hv : Vis X.env.scope y := by first | exact Or.inl rfl | exact Or.inr (Or.inl rfl) | exact Or.inr (Or.inr rfl))
    (hd : (y == ("__debug__" : Str)) = false := by decide) (hcd : (y == ("__classdict__" : Str)) = false := by decide) (hb1 : attributeBase (.Name y p) "steps" X.env (eval (.Name y p) X.env) = eval (.Name y p) X.env := by rfl)
    (hbase : attributeBase (.Attribute (.Name y p) "steps" apos2) "pop" X.env (eval (.Attribute (.Name y p) "steps" apos2) X.env) = eval (.Attribute (.Name y p) "steps" apos2) X.env := by rfl)
    (hline : (apos.endLine == pos.line) = true := by rfl)
    (hs : swapsWith (.Call (.Attribute (.Attribute (.Name y p) "steps" apos2) "pop" apos) [] [] pos) none pos'.line X.env = pure false := by rfl) : SD X B ρ (.Expr (.Call (.Attribute (.Attribute (.Name y p) "steps" apos2) "pop" apos) [] [] pos) pos') E := by
  refine PS.imp (ps_expr (pe_bm0 PySem.F.plainAttrs_list PySem.F.slot_list_pop PySem.F.type_list_pop mt_pop (pe_fld (pe_var (i := j) hN hv hd hcd) hb1) hbase hline) hs) fun D σ H ⟨G, en, h1, _⟩ => ?_
  obtain ⟨e1, hh, n⟩ := en.mov hρ
  obtain ⟨_, _, vo, vs, r1, r2, r3, z, r4, r5⟩ := id hh
  have hl := r5.length
  rw [List.length_map] at hl
  have hp : 0 < m.steps.length := List.length_pos_iff.mpr hne
  have dv : DqAll X.K G vs.dropLast (m.steps.dropLast.map encR) := by
    have := DqAll.take (m.steps.length - 1) r5
    rw [List.dropLast_eq_take, hl, List.dropLast_eq_take, List.map_take]
    exact this
  obtain ⟨q1, q2⟩ := mv_put en.sub hh n (by rw [List.length_dropLast]; omega) dv
  have hg : vs[vs.length - 1]? = some (vs[vs.length - 1]'(by omega)) := List.getElem?_eq_getElem (by omega)
  exact ⟨_, e1, a, C, dx, _, .ref l, rfl, r1, c.cls, c.no2, rfl, .inl ⟨rfl, _, .inl (.inl r3)⟩, l, vs, _, rfl, rfl, r3, hg, h1 _ σ G _ (Same.refl _) (en.meth hρ q1 n q2) h⟩
/-! ### statements over EVm, TVm -/
theorem sd_exprM (he : EVm X B E.ex ρ e ot ρ') (h : ∀ d, ot = .ret d → E.nx ρ') (hx : ∀ c l, ot = .exc c l → E.ex ρ' c l) (hs : swapsWith e none pos.line X.env = pure false := by rfl) : SD X B ρ (.Expr e pos) E :=
  PS.imp (ps_expr he hs) fun D σ H ⟨G, en, h1, _⟩ => by
    cases ot with
    | ret d => exact ⟨G, en, fun v H' G' s en' p => h1 ρ' σ G' H' s en' (h d rfl)⟩
    | exc c l => exact ⟨G, en, hx c l rfl⟩
theorem sd_retM (he : EVm X B E.ex ρ e ot ρ') (h : ∀ d, ot = .ret d → E.rt ρ' d) (hx : ∀ c l, ot = .exc c l → E.ex ρ' c l) : SD X B ρ (.Return (some e) pos) E :=
  PS.imp (ps_ret he) fun D σ H ⟨G, en, _, h2, _⟩ => by
    cases ot with
    | ret d => exact ⟨G, en, fun v H' G' s en' p => h2 ρ' d v σ G' H' s en' p (h d rfl)⟩
    | exc c l => exact ⟨G, en, hx c l rfl⟩
theorem evm_if {c : Bool} {t f : Expr} (h : TV X B ρ b' c) (ha : c = true → EVm X B ex ρ t ot ρ') (hb : c = false → EVm X B ex ρ f ot ρ') : EVm X B ex ρ (.IfExp b' t f pos) ot ρ' := by
  have lift : ∀ {σ H Q} {G H1 G1 : Hp}, En X.K B G H σ ρ → Grow G H G1 H1 → (match ot with | .ret d => ∀ v H' G', Same G G' → En X.K B G' H' σ ρ' → Dq X.K G' v d → Q v H' | .exc c l => ex ρ' c l) → tM X.K B ρ ot ρ' ex σ H1 Q := fun {σ H Q G H1 G1} en g k => ⟨G1, en.grow g, by
    cases ot with
    | ret d => exact fun v H' G' s en' p => k v H' G' (g.gg.trans s) en' p
    | exc c l => exact k⟩
  cases c with
  | true => exact PE.imp (pe_ifExp h (ha rfl) (never_e (t := fun _ _ _ => False) fun _ _ _ z => z)) fun σ H Q ⟨G, en, k⟩ => ⟨G, en, fun H1 G1 g1 => iteT (lift en g1 k)⟩
  | false => exact PE.imp (pe_ifExp h (never_e (t := fun _ _ _ => False) fun _ _ _ z => z) (hb rfl)) fun σ H Q ⟨G, en, k⟩ => ⟨G, en, fun H1 G1 g1 => iteF (lift en g1 k)⟩
theorem sd_ifM {c : Bool} {u v : List Stmt} (hc : TVm X B ρ e c ρ') (h1 : c = true → SDs X B ρ' u E) (h2 : c = false → SDs X B ρ' v E) : SD X B ρ (.If e u v pos) E := by
  cases c with
  | true => exact PS.imp (ps_if hc (h1 rfl) (pss_never)) fun D σ H ⟨G, en, q1, q2, q3, q4⟩ => ⟨G, en, fun H1 G1 s1 en1 => iteT ⟨G1, en1, fun ρ2 σ2 G2 H2 s2 => q1 ρ2 σ2 G2 H2 (s1.trans s2), fun r d v t G2 H2 s2 => q2 r d v t G2 H2 (s1.trans s2), fun ρ2 σ2 G2 H2 s2 => q3 ρ2 σ2 G2 H2 (s1.trans s2), fun ρ2 σ2 G2 H2 s2 => q4 ρ2 σ2 G2 H2 (s1.trans s2)⟩⟩
  | false => exact PS.imp (ps_if hc (pss_never) (h2 rfl)) fun D σ H ⟨G, en, q1, q2, q3, q4⟩ => ⟨G, en, fun H1 G1 s1 en1 => iteF ⟨G1, en1, fun ρ2 σ2 G2 H2 s2 => q1 ρ2 σ2 G2 H2 (s1.trans s2), fun r d v t G2 H2 s2 => q2 r d v t G2 H2 (s1.trans s2), fun ρ2 σ2 G2 H2 s2 => q3 ρ2 σ2 G2 H2 (s1.trans s2), fun ρ2 σ2 G2 H2 s2 => q4 ρ2 σ2 G2 H2 (s1.trans s2)⟩⟩
theorem WVm.tv {c : Bool} (h : WVm X B ρ e c ρ') : TVm X B ρ e c ρ' := PW.pt h
theorem wvm_or1 {c : Bool} (h : TVm X B ρ e c ρ') : WVm X B ρ (.BoolOp .Or [e] pos) c ρ' := pw_or1 h
theorem wvm_and1 {c : Bool} (h : TVm X B ρ e c ρ') : WVm X B ρ (.BoolOp .And [e] pos) c ρ' := pw_and1 h
theorem wvm_or {c c' : Bool} {rest : List Expr} (h : TVm X B ρ e c ρ') (h' : c = false → WVm X B ρ' (.BoolOp .Or (b' :: rest) pos) c' ρ'') (h'' : c = true → ρ' = ρ'' ) : WVm X B ρ (.BoolOp .Or (e :: b' :: rest) pos) (c || c') ρ'' := by
  cases c with
  | false => exact PW.imp (pw_or h (h' rfl)) fun σ H Q ⟨G, en, k⟩ => ⟨G, en, fun H1 G1 s1 en1 => iteF ⟨G1, en1, fun H2 G2 s2 en2 => k H2 G2 (s1.trans s2) en2⟩⟩
  | true =>
    cases h'' rfl
    exact PW.imp (pw_or h (never_w (t := fun _ _ _ => False) fun _ _ _ z => z)) fun σ H Q ⟨G, en, k⟩ => ⟨G, en, fun H1 G1 s1 en1 => iteT (k H1 G1 s1 en1)⟩
theorem wvm_and {c c' : Bool} {rest : List Expr} (h : TVm X B ρ e c ρ') (h' : c = true → WVm X B ρ' (.BoolOp .And (b' :: rest) pos) c' ρ'') (h'' : c = false → ρ' = ρ'') : WVm X B ρ (.BoolOp .And (e :: b' :: rest) pos) (c && c') ρ'' := by
  cases c with
  | true => exact PW.imp (pw_and h (h' rfl)) fun σ H Q ⟨G, en, k⟩ => ⟨G, en, fun H1 G1 s1 en1 => iteT ⟨G1, en1, fun H2 G2 s2 en2 => k H2 G2 (s1.trans s2) en2⟩⟩
  | false =>
    cases h'' rfl
    exact PW.imp (pw_and h (never_w (t := fun _ _ _ => False) fun _ _ _ z => z)) fun σ H Q ⟨G, en, k⟩ => ⟨G, en, fun H1 G1 s1 en1 => iteF (k H1 G1 s1 en1)⟩
theorem tvm_not {c : Bool} (h : TVm X B ρ e c ρ') : TVm X B ρ (.UnaryOp .Not e pos) (!c) ρ' := PT.imp (pt_not h) fun σ H Q ⟨G, en, k⟩ => ⟨G, en, fun H1 G1 s1 en1 => k H1 G1 s1 en1⟩
theorem tvm_val {c : Bool} (h : EVm X B ex ρ e (.ret (.bool c)) ρ') (he : ∀ whole, isTrue e X.env whole = (do let v ← whole; standAt e.pos; holding [v] (truthy v)) := by intro _; rfl) : TVm X B ρ e c ρ' := by
  refine PT.imp (pt_val h he) fun σ H Q ⟨G, en, k⟩ => ⟨G, en, fun x H1 G1 s1 en1 p1 => ?_⟩
  cases p1
  exact ⟨c, rfl, k H1 G1 s1 en1⟩
/-- the left side changes the mover -/
theorem tvm_ne {c : Bool} (hu : X.A.units + 65 < cLine) (ha : EVm X B ex ρ e (.ret d) ρ') (hb : EVo X B ρ' b' d') (h1 : okD d = true) (h2 : okD d' = true) (hc : PyData.eqv d d' = c) : TVm X B ρ (.Compare e [.NotEq] [b'] pos) (!c) ρ' := by
  refine PT.imp (pt_cmpR (op_neD (by omega)) ha hb (nomark _)) fun σ H Q ⟨G, en, k⟩ => ⟨G, en, fun x H1 G1 s1 en1 p1 => ⟨G1, en1, fun y H2 G2 g2 p2 => ?_⟩⟩
  refine neD_ok h1 h2 hc g2.sub (.inl (Dq.mono g2.gg _ p1)) p2 fun v H' G' g p => ?_
  cases p
  exact ⟨_, rfl, k H' G' (s1.trans (g2.gg.trans g.gg)) (en1.grow (g2.trans g))⟩
theorem tvm_eq {c : Bool} (hu : X.A.units + 65 < cLine) (ha : EVm X B ex ρ e (.ret d) ρ') (hb : EVo X B ρ' b' d') (h1 : okD d = true) (h2 : okD d' = true) (hc : PyData.eqv d d' = c) : TVm X B ρ (.Compare e [.Eq] [b'] pos) c ρ' := by
  refine PT.imp (pt_cmpR (op_eqD (by omega)) ha hb (nomark _)) fun σ H Q ⟨G, en, k⟩ => ⟨G, en, fun x H1 G1 s1 en1 p1 => ⟨G1, en1, fun y H2 G2 g2 p2 => ?_⟩⟩
  refine eqD_ok h1 h2 hc g2.sub (.inl (Dq.mono g2.gg _ p1)) p2 fun v H' G' g p => ?_
  cases p
  exact ⟨_, rfl, k H' G' (s1.trans (g2.gg.trans g.gg)) (en1.grow (g2.trans g))⟩
theorem evm_eq {c : Bool} (hu : X.A.units + 65 < cLine) (ha : EVm X B ex ρ e (.ret d) ρ') (hb : EVo X B ρ' b' d') (h1 : okD d = true) (h2 : okD d' = true) (hc : PyData.eqv d d' = c) : EVm X B ex ρ (.Compare e [.Eq] [b'] pos) (.ret (.bool c)) ρ' := by
  refine PE.imp (pe_cmpR (op_eqD (by omega)) ha hb (nomark _)) fun σ H Q ⟨G, en, k⟩ => ⟨G, en, fun x H1 G1 s1 en1 p1 => ⟨G1, en1, fun y H2 G2 g2 p2 => ?_⟩⟩
  refine eqD_ok h1 h2 hc g2.sub (.inl (Dq.mono g2.gg _ p1)) p2 fun v H' G' g p => ?_
  exact k _ H' G' (s1.trans (g2.gg.trans g.gg)) (en1.grow (g2.trans g)) p
/-- as values, all bools -/
theorem evm_one {op} (h : EVm X B ex ρ e ot ρ') : EVm X B ex ρ (.BoolOp op [e] pos) ot ρ' := pe_one h
theorem evm_and {c : Bool} {rest : List Expr} (h : EVm X B ex ρ e (.ret (.bool c)) ρ') (h' : c = true → EVm X B ex ρ' (.BoolOp .And (b' :: rest) pos) ot ρ'') (h'' : c = false → ot = .ret (.bool false) ∧ ρ' = ρ'') : EVm X B ex ρ (.BoolOp .And (e :: b' :: rest) pos) ot ρ'' := by
  cases c with
  | true => exact PE.imp (pe_and h (h' rfl)) fun σ H Q ⟨G, en, k⟩ => ⟨G, en, fun x H1 G1 s1 en1 p1 => by
      cases p1
      refine ⟨true, rfl, iteT ⟨G1, en1, ?_⟩⟩
      cases ot with
      | ret d => exact fun v H2 G2 s2 en2 p2 => k v H2 G2 (s1.trans s2) en2 p2
      | exc c l => exact k⟩
  | false =>
    obtain ⟨e1, e2⟩ := h'' rfl
    subst e1 e2
    exact PE.imp (pe_and h (never_e (t := fun _ _ _ => False) fun _ _ _ z => z)) fun σ H Q ⟨G, en, k⟩ => ⟨G, en, fun x H1 G1 s1 en1 p1 => by
      cases p1
      exact ⟨false, rfl, iteF (k _ H1 G1 s1 en1 (.bl _))⟩⟩
/-! ### a def that gets the mover -/
structure Mf (P : Program) (w : World) (K : PySem.W.Frag) (mg : Str → Option Value) (base : Heap) (k : Nat) (C : Addr) (x : Str) (ps : List Str) (R : Mv → List PyData → Out → Mv → Prop) : Prop where
  ex : ∃ f fd, mg x = some (.ref f) ∧ PySem.W.keepIn K (.ref f) = true ∧ Binds K fd ps [] ∧ FnM P w K mg base C k f fd ps R
theorem evm_fn (tk : TakesD X B ex) (D : Mf X.prog X.w X.K X.mg X.base k C x ps R) (hr : Room k X.A) (hρ : ρ[j]? = some (.mov X.K C a dx l m)) (ha : AV X B ρ es ds) (hR : R m ds ot m') (hN : X.N[j]? = some y := by rfl) (hv : Vis X.env.scope y := by first | exact Or.inl rfl | exact Or.inr (Or.inl rfl) | exact Or.inr (Or.inr rfl))
    (hd : (y == ("__debug__" : Str)) = false := by decide) (hcd : (y == ("__classdict__" : Str)) = false := by decide) (hg : Gl X x := by rfl) (hdb : (x == ("__debug__" : Str)) = false := by decide)
    (he : starEach (.Name y p :: es) X.env = (false, eval (.Name y p) X.env) :: starEach es X.env := by rfl) (hpl : (backTo pos (starEach es X.env)).any (·.1) = false := by rfl) :
    EVm X B ex ρ (.Call (.Name x apos) (.Name y p :: es) [] pos) ot (ρ.set j (.mov X.K C a dx l m')) := by
  obtain ⟨f, fd, hm, hk, hb, F⟩ := D.ex
  refine PE.imp (pe_callS F hr hg hm hk hb (fun σ => passAt tk σ) (pa_cons (pe_var (i := j) hN hv hd hcd) ha he) hdb he hpl) fun σ H Q ⟨G, en, k⟩ => ?_
  obtain ⟨e1, hh, n⟩ := en.mov hρ
  refine ⟨_, e1, G, en, fun us H2 G2 g2 p2 => ?_⟩
  have en2 := en.grow g2
  obtain ⟨_, hh2, n2⟩ := en2.mov hρ
  refine ⟨a, dx, l, us, G2, m, ds, ot, m', rfl, en2.sub, en2.gr.tc B.3, hh2, n2, p2, hR, ?_⟩
  cases ot with
  | ret d => exact fun v H' G' g gn hm pp => k v H' G' (g2.gg.trans g.gg) (en2.meth hρ g gn hm) pp
  | exc c l => exact fun d H' G' g gn hm xa => ⟨G', _, l, en2.meth hρ g gn hm, xa, k⟩
end
section
variable {P : Program} {w : World} {K : PySem.W.Frag} {mg : Str → Option Value} {base : Heap}
theorem mf_of {x : Str} {st : Stmt} {N ps : List Str} {k : Nat} {C : Addr} {R : Mv → List PyData → Out → Mv → Prop} (D : DefAt K mg x st) (S : FnScope N ps (defScope st))
    (hb : ∀ (kV doc pm : Value) (an : Option Addr) (cdv ct : Value) (us : List Value), us.length = ps.length → bindArgs (PySem.W.fnOf x x (defArgs st) (defBody st) (defScope st) .none kV doc pm an cdv ct) ⟨us, []⟩ = pure (ps.zip us))
    (hl : ∀ m ds o m', R m ds o m' → ds.length + 1 = ps.length)
    (body : ∀ (f : Addr) (cdv : Value) (A : Around) (outer : List Env) (s : Shared) (H : Hp) (E : XK) (B : Bs) (a dx l : Addr) (m : Mv) (ds : List PyData) (o : Out) (m' : Mv), R m ds o m' → Room k (cxD P w K mg base N x st f cdv A outer s H E).A →
      PassesOwn (model P w) (cxD P w K mg base N x st f cdv A outer s H E).A (cxD P w K mg base N x st f cdv A outer s H E).env (cxD P w K mg base N x st f cdv A outer s H E).xe →
      TakesD (cxD P w K mg base N x st f cdv A outer s H E) B (fun ρ c ln => o = .exc c ln ∧ ρ[0]? = some (.mov K C a dx l m')) →
      SDs (cxD P w K mg base N x st f cdv A outer s H E) B (rhoM N (.mov K C a dx l m) ds) (defBody st) { nx := fun ρ => o = .ret .none ∧ ρ[0]? = some (.mov K C a dx l m'), rt := fun ρ d => o = .ret d ∧ ρ[0]? = some (.mov K C a dx l m'), ex := fun ρ c ln => o = .exc c ln ∧ ρ[0]? = some (.mov K C a dx l m') }) : Mf P w K mg base (k + 1) C x ps R := by
  obtain ⟨f, fd, F, g⟩ := D.ex
  exact ⟨f, fd, g, F.kp, F.binds hb, fnM F S hl (fun cdv A outer s H E B a dx l m ds o m' => body f cdv A outer s H E B a dx l m ds o m')⟩
end
end UP

/-! MZ: len, str, == and != of a mover, by its own methods. -/
namespace UP
open PySem PySem.Spec L2
section
open PySem.W PySem.Builtin
variable {prog : Program} {w : World} {A : Around} {E : Value → Shared → Prop} {s : Shared} {K : Frag} {x C f : Addr} {ox : Obj} {od : Option Obj} {b tb : Value}
theorem ifBound_objNe {M : Model} {args : List Value} {Q : Option Value → Shared → Prop} (X : K.In s.heap) (I : InstAt s.heap x ox C od) (hs : findIn K (.ref C) "__ne__" = some (some (.builtin "object.__ne__")))
    (h : wpAny M A (call (.builtin "object.__ne__") (.ref x :: args)) (fun v => Q (some v)) E s) : wpAny M A (callSpecialIfBound? (.ref x) "__ne__" args) Q E s := by
  simp only [callSpecialIfBound?, bindSpecialIfBound?]
  refine wpAny_holding (wpAny_bind (wpAny_bind (wpAny_bind (I.type.here ((looks_findIn X hs).here ?_)))))
  refine wpAny_bind (wpAny_askSetting (wpAny_ite ?_))
  have fin : wpAny M A (call (.builtin "object.__ne__") ([.ref x] ++ args) >>= fun v => pure (some v)) Q E s := wpAny_bind (wpAny_mono h (fun v s' h' => wpAny_pure h') fun _ _ h' => h')
  split
  · exact wpAny_bind (wpAny_of_eq (PySem.F.cmp_object.ne.bind _) (wpAny_pure (by exact fin)))
  · exact wpAny_tryCatch (wpAny_bind (wpAny_of_eq (PySem.F.cmp_object.ne.bind _) (wpAny_pure (by exact fin))))
theorem entry_objNe {Q : Fin → Shared → Prop} (hu : A.units < cLine) (X : K.In s.heap) (I : InstAt s.heap x ox C od) (he : findIn K (.ref C) "__eq__" = some (some (.ref f))) (hf : isFn K (.ref f) = true)
    (h : wpAny (model prog w) A (call (.ref f) [.ref x, b]) (fun v s' => ∃ r, v = .bool r ∧ Q (.done (.ret (.bool (!r)))) s') E s) : wpAny (model prog w) A (Builtin.«object.__ne__» ⟨[.ref x, b], []⟩) Q E s := by
  unfold Builtin.«object.__ne__»
  repeat (first
    | with_reducible refine wpAny_cRoomFor hu ?_
    | (refine wpAny_bind (m := callSpecialIfBound? (.ref x) (Str.ofString "__eq__") [b])
        (ifBound_K X I he hf (wpAny_mono h (fun r s' hr => by
          obtain ⟨b, rfl, hq⟩ := hr
          repeat (first | exact hq | exact wpAny_pure hq | exact wpAny_truthy_bool hq | (refine wpAny_bind (m := truthy (.bool _)) (wpAny_truthy_bool ?_)) | wp_step)) fun _ _ e => e)))
    | wp_step)
theorem ne_K {Q : Value → Shared → Prop} (hu : A.units + 1 < cLine) (X : K.In s.heap) (I : InstAt s.heap x ox C od) (hb : Looks (model prog w) s.heap (typeOf b) tb) (hn : notFirst K C tb = true) (hs : findIn K (.ref C) "__ne__" = some (some (.builtin "object.__ne__"))) (hm : mroIn K C (.type "object") = some true)
    (he : findIn K (.ref C) "__eq__" = some (some (.ref f))) (hf : isFn K (.ref f) = true)
    (h : wpAny (model prog w) A.in1 (call (.ref f) [.ref x, b]) (fun v s' => ∃ r, v = .bool r ∧ Q (.bool (!r)) s') E s) : wpAny (model prog w) A (richCompare .NotEq (.ref x) b) Q E s := by
  have one : wpAny (model prog w) A (tryCompare (.ref x) "__ne__" b) (fun r s' => ∃ v, r = some v ∧ Q v s') E s := by
    unfold tryCompare
    refine wpAny_bind (ifBound_objNe X I hs (wpAny_call (codeAny_call_builtin PySem.F.cmp_object.ne.plain PySem.F.cmpEntry_ne (check_slot PySem.F.cmpKind_ne PySem.F.cmpSplit_ne (I.type.andThen (looks_mroIn X hm)) (PySem.F.cmpArgs_ne _ _) (entry_objNe (A := A.in1) hu X I he hf (wpAny_mono h (fun v s' hv => ?_) fun _ _ e => e))))))
    obtain ⟨r, rfl, hq⟩ := hv
    exact ⟨r, rfl, wpAny_pure ⟨_, rfl, hq⟩⟩
  unfold richCompare
  simp only [oneThing_ref]
  refine wpAny_holding (wpAny_bind (wpAny_cRoomFor (Nat.lt_of_succ_lt hu) ?_))
  refine wpAny_bind (I.type.here (wpAny_bind (hb.here ?_)))
  split
  · rename_i q
    have e : subIn K tb (.ref C) = some false := by
      rcases Bool.or_eq_true_iff.mp hn with e | e
      · rw [beq_iff_eq.mp e] at q; simp at q
      · exact beq_iff_eq.mp e
    refine wpAny_bind ((looks_subIn X e).here ?_)
    simp only [Bool.false_eq_true, if_false]
    refine wpAny_bind (wpAny_mono one (fun r s' z => ?_) fun _ _ e => e)
    obtain ⟨v, rfl, hq⟩ := z
    exact wpAny_pure hq
  · refine wpAny_bind (wpAny_pure ?_)
    simp only [Bool.false_eq_true, if_false]
    refine wpAny_bind (wpAny_mono one (fun r s' z => ?_) fun _ _ e => e)
    obtain ⟨v, rfl, hq⟩ := z
    exact wpAny_pure hq
end
section
variable {X : Cx} {C f : Addr} {fd : FuncData} {ps : List Str} {sp : Sp} {k : Nat} {pins : List (Addr × Obj)} {s : Shared} {σ : L2.St} {H : Hp}
theorem env_in {A : Around} (I : Inv X pins σ H s) (fr : A.frames = X.A.frames) : Env0 X.prog X.w X.K X.mg X.base A X.stack s H := by
  have e := I.env0
  exact ⟨by rw [fr]; exact e.frames, e.mod, e.bs, e.bsz, e.funs, e.frf, e.hok, e.bare⟩
/-- a method called by the machine itself -/
theorem run_in {A : Around} {us : List Value} {vs : List V} {Q : VK} (F : FnOk X.prog X.w X.K X.mg X.base (L2.CX X.prog X.w) k f fd ps sp) (hb : Binds X.K fd ps []) (hr : Room k A) (fr : A.frames = X.A.frames) (I : Inv X pins σ H s) (r : Vals vs us) (hsp : sp vs H Q E0) :
    wpAny (model X.prog X.w) A (call (.ref f) us) (EP X pins σ Q) X.xe s := by
  have hl := F.len _ _ _ _ hsp
  refine wpAny_call (codeAny_mono (F.run A X.stack s H ⟨us, []⟩ us vs Q E0 hr (env_in I fr) (by
    have := hb s us I.kIn (by rw [List.append_nil, ← r.length]; exact hl)
    simpa using this) r hsp) fun rr s' hq => ?_)
  cases rr with
  | error e => exact passL pins σ H s e s' I hq
  | ok fl =>
    cases fl with
    | ret u => exact I.after hq
    | next => exact False.elim hq
    | brk => exact False.elim hq
    | cont => exact False.elim hq
theorem call_lenM (M : Meth X.K C "__len__" f) (hb : Binds X.K fd ps []) (F : FnOk X.prog X.w X.K X.mg X.base (L2.CX X.prog X.w) k f fd ps sp) (hr : Room (k + 1) X.A) :
    CallR X (.builtin "len") (fun xs H Q => ∃ a dx fs, xs = [.ref a] ∧ H a = some (.ins C dx fs) ∧ sp [.ref a] H (fun u H' => ∃ n : Nat, u = .int n ∧ n ≤ 1000000 ∧ Q u H') E0) := by
  intro pins s σ H xs us Q I r h
  obtain ⟨a, dx, fs, rfl, ha, hsp⟩ := h
  obtain ⟨u, rfl, ru⟩ := vals1 r
  obtain rfl : u = .ref a := ru
  obtain ⟨mA, J, _⟩ := ins_get I.hok ha
  obtain ⟨od, J, _⟩ := J.look
  obtain ⟨m, hF⟩ := I.fr
  refine PySem.W.len_K hF I.ok.mod.kin J M.at_ M.fn (wpAny_mono (run_in (vs := [.ref a]) F hb hr.in1 rfl I (.cons rfl .nil) hsp) (fun v s' hq => ?_) fun _ _ z => z)
  obtain ⟨z, H', I', rz, n, ez, hn, q⟩ := hq
  subst ez
  obtain ⟨t, rfl⟩ := rz
  exact ⟨⟨by omega, by omega⟩, .int n, H', I'.tok _, ⟨_, rfl⟩, q⟩
theorem call_strM (M : Meth X.K C "__str__" f) (hb : Binds X.K fd ps []) (F : FnOk X.prog X.w X.K X.mg X.base (L2.CX X.prog X.w) k f fd ps sp) (hr : Room (k + 2) X.A) :
    CallR X (.type "str") (fun xs H Q => ∃ a dx fs, xs = [.ref a] ∧ H a = some (.ins C dx fs) ∧ sp [.ref a] H (fun u H' => ∃ z : Str, u = .str z ∧ Q u H') E0) := by
  intro pins s σ H xs us Q I r h
  obtain ⟨a, dx, fs, rfl, ha, hsp⟩ := h
  obtain ⟨u, rfl, ru⟩ := vals1 r
  obtain rfl : u = .ref a := ru
  obtain ⟨mA, J, _⟩ := ins_get I.hok ha
  obtain ⟨od, J, _⟩ := J.look
  refine PySem.W.kso_call hr.in1.in1.units0 I.kIn J M.at_ M.fn (wpAny_mono (run_in (vs := [.ref a]) F hb hr.in1.in1 rfl I (.cons rfl .nil) hsp) (fun v s' hq => ?_) fun _ _ z => z)
  obtain ⟨z, H', I', rz, n, ez, q⟩ := hq
  subst ez
  obtain ⟨t, rfl⟩ := rz
  exact ⟨.str n, H', I', ⟨_, rfl⟩, q⟩
def rCmpM (K : PySem.W.Frag) (C : Addr) (sp : Sp) (g : Bool → Bool) : R2 := fun x y H Q => ∃ a dx fs t, x = .ref a ∧ H a = some (.ins C dx fs) ∧ TyX K H y t ∧ PySem.W.notFirst K C t = true ∧ sp [x, y] H (fun u H' => ∃ b, u = .bl b ∧ Q (.bl (g b)) H') E0
theorem op_eqM (M : Meth X.K C "__eq__" f) (hb : Binds X.K fd ps []) (F : FnOk X.prog X.w X.K X.mg X.base (L2.CX X.prog X.w) k f fd ps sp) (hr : Room k X.A) : OpR X (compareOp .Eq) (rCmpM X.K C sp id) := by
  intro pins s σ H x y v u Q I rx ry h
  obtain ⟨a, dx, fs, t, rfl, ha, ty, nf, hsp⟩ := h
  obtain rfl : v = .ref a := rx
  obtain ⟨mA, J, _⟩ := ins_get I.hok ha
  obtain ⟨od, J, _⟩ := J.look
  obtain ⟨m, hF⟩ := I.fr
  obtain ⟨Pk, kx, hk, _⟩ := kit_of I ry ty
  show wpAny (model X.prog X.w) X.A (richCompare .Eq (.ref a) u) (EP X pins σ Q) X.xe s
  refine PySem.W.cmp_K (op := .Eq) (tb := t) hr.units0 hF I.ok.mod.kin J (kx.ty _ _ I.kIn hk) nf M.at_ M.fn (wpAny_mono (run_in (vs := [.ref a, y]) F hb hr rfl I (.cons rfl (.cons ry .nil)) hsp) (fun v s' hq => ?_) fun _ _ z => z)
  obtain ⟨z, H', I', rz, n, ez, q⟩ := hq
  subst ez
  obtain rfl : v = .bool n := rz
  exact ⟨.bl n, H', I', rfl, q⟩
theorem op_neM (M : Meth X.K C "__eq__" f) (hs : PySem.W.findIn X.K (.ref C) "__ne__" = some (some (.builtin "object.__ne__"))) (hm : PySem.W.mroIn X.K C (.type "object") = some true) (hb : Binds X.K fd ps []) (F : FnOk X.prog X.w X.K X.mg X.base (L2.CX X.prog X.w) k f fd ps sp) (hr : Room (k + 1) X.A) : OpR X (compareOp .NotEq) (rCmpM X.K C sp (!·)) := by
  intro pins s σ H x y v u Q I rx ry h
  obtain ⟨a, dx, fs, t, rfl, ha, ty, nf, hsp⟩ := h
  obtain rfl : v = .ref a := rx
  obtain ⟨mA, J, _⟩ := ins_get I.hok ha
  obtain ⟨od, J, _⟩ := J.look
  obtain ⟨Pk, kx, hk, _⟩ := kit_of I ry ty
  show wpAny (model X.prog X.w) X.A (richCompare .NotEq (.ref a) u) (EP X pins σ Q) X.xe s
  refine ne_K (tb := t) (by have := hr.un; omega) I.kIn J (kx.ty _ _ I.kIn hk) nf hs hm M.at_ M.fn (wpAny_mono (run_in (vs := [.ref a, y]) F hb hr.in1 rfl I (.cons rfl (.cons ry .nil)) hsp) (fun v s' hq => ?_) fun _ _ z => z)
  obtain ⟨z, H', I', rz, n, ez, q⟩ := hq
  subst ez
  obtain rfl : v = .bool n := rz
  exact ⟨n, rfl, .bl (!n), H', I', rfl, q⟩
end
section
variable {X : Cx} {B : Bs} {ρ ρ' : DEnv} {e o b' : Expr} {pos p : Pos} {C a dx l : Addr} {m m' : Mv} {k : Nat} {ps : List Str}
/-- len(o) -/
theorem ev_lenMv {R : Mv → List PyData → Out → Prop} {n : Nat} (hm : X.mg "len" = none) (D : Vn X.prog X.w X.K X.mg X.base k C "__len__" ps R) (hr : Room (k + 1) X.A) (ho : EVP X B ρ o (isMv X.K C a dx l m)) (hR : R m [] (.ret (encN n))) (hn : n ≤ 1000000) (hg : Gl X "len" := by rfl) (he : starEach [o] X.env = [(false, eval o X.env)] := by rfl) :
    EV X B ρ (.Call (.Name "len" p) [o] [] pos) (encN n) := by
  obtain ⟨f, fd, M, hb, F⟩ := D.ex
  refine PE.imp (pe_callB (call_lenM M hb F hr) hg hm PySem.boot_len (pa_cons ho pa_nil he) (by decide) (by decide) he rfl) fun σ H Q ⟨G, en, k⟩ => ⟨G, en, fun v H1 G1 g1 ⟨e, hh, n'⟩ => ?_⟩
  obtain ⟨_, _, vo, vs, h1, r⟩ := id hh
  subst e
  exact ⟨a, dx, _, rfl, h1, a, dx, l, [], G1, m, [], _, rfl, g1.sub, g1.tc (en.gr.tc B.3), hh, n', .nil, hR, fun v H' G' g pp => by cases pp; exact ⟨n, rfl, hn, k _ H' G' (g1.trans g) (.int _)⟩⟩
/-- str(o) -/
theorem ev_strMv {R : Mv → List PyData → Out → Prop} {z : Str} (hm : X.mg "str" = none) (D : Vn X.prog X.w X.K X.mg X.base k C "__str__" ps R) (hr : Room (k + 2) X.A) (ho : EVP X B ρ o (isMv X.K C a dx l m)) (hR : R m [] (.ret (.str z))) (hg : Gl X "str" := by rfl) (he : starEach [o] X.env = [(false, eval o X.env)] := by rfl) :
    EV X B ρ (.Call (.Name "str" p) [o] [] pos) (.str z) := by
  obtain ⟨f, fd, M, hb, F⟩ := D.ex
  refine PE.imp (pe_callTy (call_strM M hb F hr) hg hm bt_str (pa_cons ho pa_nil he) (by decide) (by decide) he rfl) fun σ H Q ⟨G, en, k⟩ => ⟨G, en, fun v H1 G1 g1 ⟨e, hh, n'⟩ => ?_⟩
  obtain ⟨_, _, vo, vs, h1, r⟩ := id hh
  subst e
  exact ⟨a, dx, _, rfl, h1, a, dx, l, [], G1, m, [], _, rfl, g1.sub, g1.tc (en.gr.tc B.3), hh, n', .nil, hR, fun v H' G' g pp => by cases pp; exact ⟨z, rfl, k _ H' G' (g1.trans g) (.str _)⟩⟩
/-- str of a text -/
theorem ev_strS {z : Str} (hm : X.mg "str" = none) (ha : EV X B ρ e (.str z)) (hg : Gl X "str" := by rfl) (he : starEach [e] X.env = [(false, eval e X.env)] := by rfl) : EV X B ρ (.Call (.Name "str" p) [e] [] pos) (.str z) :=
  ev_callT1 SkE.call_str_str hm bt_str ha (fun v G H Q s pv k => by
    cases pv
    exact ⟨z, rfl, k _ H G (Grow.refl s) (.str _)⟩) hg (by decide) (by decide) he
/-! ### == -/
/-- the other side: a mover, or data -/
inductive Oth where
  | mv (a dx l : Addr) (m : Mv)
  | dt (d : PyData)
def Oth.isMv : Oth → Bool
  | .mv .. => true
  | .dt _ => false
def isOth (K : PySem.W.Frag) (C : Addr) : Oth → Pd
  | .mv a dx l m => isMv K C a dx l m
  | .dt d => isD K d
theorem stb_oth {K : PySem.W.Frag} {C : Addr} : ∀ {o : Oth}, Stb (isOth K C o)
  | .mv _ _ _ _ => stb_mv
  | .dt _ => stb_d
/-- __eq__: the mover, and another thing -/
def spE (K : PySem.W.Frag) (C : Addr) (R : Mv → Oth → Bool → Prop) : Sp := fun vs H Q E => ∃ a dx l v G m o b, vs = [.ref a, v] ∧ Same G H ∧ Tc G H ∧ isMv K C a dx l m G H (.ref a) ∧ isOth K C o G H v ∧ (∀ a' dx' l' m', o = .mv a' dx' l' m' → ∀ c ∈ mvA a' dx' l', c ∉ mvA a dx l) ∧ R m o b ∧ ∀ H' G', Grow G H G' H' → Q (.bl b) H'
structure EqM (P : Program) (w : World) (K : PySem.W.Frag) (mg : Str → Option Value) (base : Heap) (k : Nat) (C : Addr) (R : Mv → Oth → Bool → Prop) : Prop where
  ex : ∃ f fd ps, Meth K C "__eq__" f ∧ Binds K fd ps [] ∧ FnOk P w K mg base (L2.CX P w) k f fd ps (spE K C R)
/-- what the class says for == -/
structure ClsE (K : PySem.W.Frag) (C : Addr) : Prop where
  ins : C8.InsC K C
  ne : PySem.W.findIn K (.ref C) "__ne__" = some (some (.builtin "object.__ne__"))
  no : ∀ d : PyData, PySem.W.subIn K (.type (tyD d)) (.ref C) = some false
  nk : ∀ d : PyData, PySem.W.kitOne K (.type (tyD d)) (.ref C) = some false
theorem oth_ty {K : PySem.W.Frag} (c : ClsE K C) {G H : Hp} {v : V} : ∀ {o : Oth}, Same G H → isOth K C o G H v → ∃ t, TyX K H v t ∧ PySem.W.notFirst K C t = true ∧ PySem.W.kitOne K t (.ref C) = some o.isMv
  | .mv a dx l m, s, ⟨e, hh, n⟩ => by
    obtain ⟨_, _, vo, vs, h1, r⟩ := hh
    subst e
    exact ⟨.ref C, .base (.ins h1 c.ins.cl c.ins.ha c.ins.hn c.ins.htk c.ins.hm), by unfold PySem.W.notFirst; simp, c.ins.me⟩
  | .dt d, s, h => ⟨_, Dq.ty s h, by unfold PySem.W.notFirst; rw [c.no d]; simp, c.nk d⟩
/-- the objects of two movers lie apart -/
def Apt (X : Cx) (B : Bs) (ρ : DEnv) (a dx l : Addr) (ot : Oth) : Prop := ∀ G H σ, En X.K B G H σ ρ → ∀ a' dx' l' m', ot = .mv a' dx' l' m' → ∀ c ∈ mvA a' dx' l', c ∉ mvA a dx l
theorem apt_d {d : PyData} : Apt X B ρ a dx l (.dt d) := fun _ _ _ _ _ _ _ _ e => nomatch e
theorem IsMov.fp {K : PySem.W.Frag} {s : Slot} {v : Option V} {fp : List Addr} {G H : Hp} (h : IsMov K s C a dx l m) (q : SlotAt K G H s v fp) : fp = mvA a dx l := by
  obtain ⟨R, rfl, hR⟩ := h
  obtain ⟨v, e, q⟩ := q
  exact (hR _ _ _ _ q).2.1
theorem apt_s (i j : Nat) {s s' : Slot} {a' dx' l' : Addr} (h1 : ρ[i]? = some s) (h2 : ρ[j]? = some s') (hs : IsMov X.K s C a dx l m) (hs' : IsMov X.K s' C a' dx' l' m') (hij : i ≠ j) : Apt X B ρ a dx l (.mv a' dx' l' m') := fun G H σ en b1 b2 b3 b4 e c hc hc' => by
  cases e
  obtain ⟨fp, F⟩ := en.fp
  have l1 : i < σ.length := by rw [← en.len]; exact (List.getElem?_eq_some_iff.mp h1).1
  have l2 : j < σ.length := by rw [← en.len]; exact (List.getElem?_eq_some_iff.mp h2).1
  have f1 := hs.fp (F.at_ i _ _ h1 (List.getElem?_eq_getElem l1))
  have f2 := hs'.fp (F.at_ j _ _ h2 (List.getElem?_eq_getElem l2))
  exact hij (F.apart i j c (by rw [f1]; exact hc') (by rw [f2]; exact hc))
theorem eqMv_ok {R : Mv → Oth → Bool → Prop} {ot : Oth} {c : Bool} {g : Bool → Bool} {G H G1 H1 G2 H2 : Hp} {σ : L2.St} {x y : V} {Q : VK} (ce : ClsE X.K C) (en : En X.K B G H σ ρ) (g1 : Grow G H G1 H1) (g2 : Grow G1 H1 G2 H2) (p1 : isMv X.K C a dx l m G1 H1 x) (p2 : isOth X.K C ot G2 H2 y) (hap : Apt X B ρ a dx l ot) (hR : R m ot c)
    (k : ∀ H' G', Grow G H G' H' → Q (.bl (g c)) H') : rCmpM X.K C (spE X.K C R) g x y H2 Q := by
  have p1' := stb_mv _ _ _ _ _ g2 p1
  obtain ⟨t, ty, nf, _⟩ := oth_ty ce g2.sub p2
  obtain ⟨e, hh, n⟩ := id p1'
  obtain ⟨_, _, vo, vs, h1, r⟩ := id hh
  subst e
  exact ⟨a, dx, _, t, rfl, h1, ty, nf, a, dx, l, y, G2, m, ot, c, rfl, g2.sub, g2.tc (g1.tc (en.gr.tc B.3)), ⟨rfl, hh, n⟩, p2, hap G H σ en, hR, fun H' G' g => ⟨c, rfl, k H' G' ((g1.trans g2).trans g)⟩⟩
theorem tv_eqMv {R : Mv → Oth → Bool → Prop} {ot : Oth} {c : Bool} (ce : ClsE X.K C) (D : EqM X.prog X.w X.K X.mg X.base k C R) (hr : Room k X.A) (ho : EVP X B ρ o (isMv X.K C a dx l m)) (hb' : EVP X B ρ b' (isOth X.K C ot)) (hap : Apt X B ρ a dx l ot) (hR : R m ot c) : TV X B ρ (.Compare o [.Eq] [b'] pos) c := by
  obtain ⟨f, fd, ps, M, hb, F⟩ := D.ex
  exact PT.imp (pt_cmpR (op_eqM M hb F hr) ho hb' (nomark _)) fun σ H Q ⟨G, en, k⟩ => ⟨G, en, fun x H1 G1 g1 p1 => ⟨G1, en.grow g1, fun y H2 G2 g2 p2 => eqMv_ok ce en g1 g2 p1 p2 hap hR fun H' G' g => ⟨c, rfl, k H' G' g⟩⟩⟩
theorem tv_neMv {R : Mv → Oth → Bool → Prop} {ot : Oth} {c : Bool} (ce : ClsE X.K C) (D : EqM X.prog X.w X.K X.mg X.base k C R) (hr : Room (k + 1) X.A) (ho : EVP X B ρ o (isMv X.K C a dx l m)) (hb' : EVP X B ρ b' (isOth X.K C ot)) (hap : Apt X B ρ a dx l ot) (hR : R m ot c) : TV X B ρ (.Compare o [.NotEq] [b'] pos) (!c) := by
  obtain ⟨f, fd, ps, M, hb, F⟩ := D.ex
  exact PT.imp (pt_cmpR (op_neM M ce.ne ce.ins.hm hb F hr) ho hb' (nomark _)) fun σ H Q ⟨G, en, k⟩ => ⟨G, en, fun x H1 G1 g1 p1 => ⟨G1, en.grow g1, fun y H2 G2 g2 p2 => eqMv_ok ce en g1 g2 p1 p2 hap hR fun H' G' g => ⟨!c, rfl, k H' G' g⟩⟩⟩
theorem ev_eqMv {R : Mv → Oth → Bool → Prop} {ot : Oth} {c : Bool} (ce : ClsE X.K C) (D : EqM X.prog X.w X.K X.mg X.base k C R) (hr : Room k X.A) (ho : EVP X B ρ o (isMv X.K C a dx l m)) (hb' : EVP X B ρ b' (isOth X.K C ot)) (hap : Apt X B ρ a dx l ot) (hR : R m ot c) : EV X B ρ (.Compare o [.Eq] [b'] pos) (.bool c) := by
  obtain ⟨f, fd, ps, M, hb, F⟩ := D.ex
  exact PE.imp (pe_cmpR (op_eqM M hb F hr) ho hb' (nomark _)) fun σ H Q ⟨G, en, k⟩ => ⟨G, en, fun x H1 G1 g1 p1 => ⟨G1, en.grow g1, fun y H2 G2 g2 p2 => eqMv_ok ce en g1 g2 p1 p2 hap hR fun H' G' g => k _ H' G' g (.bl _)⟩⟩
theorem ev_neMv {R : Mv → Oth → Bool → Prop} {ot : Oth} {c : Bool} (ce : ClsE X.K C) (D : EqM X.prog X.w X.K X.mg X.base k C R) (hr : Room (k + 1) X.A) (ho : EVP X B ρ o (isMv X.K C a dx l m)) (hb' : EVP X B ρ b' (isOth X.K C ot)) (hap : Apt X B ρ a dx l ot) (hR : R m ot c) : EV X B ρ (.Compare o [.NotEq] [b'] pos) (.bool (!c)) := by
  obtain ⟨f, fd, ps, M, hb, F⟩ := D.ex
  exact PE.imp (pe_cmpR (op_neM M ce.ne ce.ins.hm hb F hr) ho hb' (nomark _)) fun σ H Q ⟨G, en, k⟩ => ⟨G, en, fun x H1 G1 g1 p1 => ⟨G1, en.grow g1, fun y H2 G2 g2 p2 => eqMv_ok ce en g1 g2 p1 p2 hap hR fun H' G' g => k _ H' G' g (.bl _)⟩⟩
end
end UP

/-! NA: what a mover's methods answer; duplicate and __eq__. -/
namespace UP
open PySem PySem.Spec L2
def Mv.last (m : Mv) : List Nat := m.steps.getLastD []
structure MvOk (m : Mv) : Prop where
  ord : IsOrd m.ord
  ne : m.steps ≠ []
  wts : ∀ w ∈ m.steps, IsW m.ord.length w
  kept : m.kept = 0
theorem getLastD_eq {α : Type} {xs : List α} {d : α} (h : xs ≠ []) : xs.getLastD d = xs.getLast h := by
  cases xs with
  | nil => exact absurd rfl h
  | cons x xs => rw [List.getLastD_eq_getLast?, List.getLast?_eq_some_getLast h]; rfl
theorem last_ix {m : Mv} (h : m.steps ≠ []) : atI (m.steps.map encR) (-1) = some (encR m.last) := by
  unfold Mv.last
  rw [getLastD_eq h]
  exact ix_last h
theorem MvOk.lastW {m : Mv} (h : MvOk m) : IsW m.ord.length m.last := by
  unfold Mv.last
  rw [getLastD_eq h.ne]
  exact h.wts _ (List.getLast_mem h.ne)
theorem last_snoc (o : List (List Nat)) (ws : List (List Nat)) (w : List Nat) (k : Nat) : (Mv.mk o (ws ++ [w]) k).last = w := by
  unfold Mv.last
  rw [List.getLastD_eq_getLast?, List.getLast?_append]
  rfl
def optsTo (o : List (List Nat)) (w : List Nat) (n : Nat) : List (Nat × Nat) := (List.range n).flatMap fun p => if 0 < w.getD p 0 then (above o p).map fun g => (p, g) else []
def optsOf (o : List (List Nat)) (w : List Nat) : List (Nat × Nat) := optsTo o w w.length
theorem opts_succ (o : List (List Nat)) (w : List Nat) (n : Nat) : optsTo o w (n + 1) = optsTo o w n ++ if 0 < w.getD n 0 then (above o n).map fun g => (n, g) else [] := by
  unfold optsTo
  rw [List.range_succ, List.flatMap_append]
  simp
theorem mem_opts {o : List (List Nat)} {w : List Nat} {s g : Nat} : (s, g) ∈ optsOf o w ↔ s < w.length ∧ 0 < w.getD s 0 ∧ g ∈ above o s := by
  unfold optsOf optsTo
  rw [List.mem_flatMap]
  constructor
  · rintro ⟨p, hp, h⟩
    split at h
    · rename_i q
      obtain ⟨g', hg', e⟩ := List.mem_map.mp h
      cases e
      exact ⟨List.mem_range.mp hp, q, hg'⟩
    · cases h
  · rintro ⟨h1, h2, h3⟩
    exact ⟨s, List.mem_range.mpr h1, by rw [if_pos h2]; exact List.mem_map.mpr ⟨g, h3, rfl⟩⟩
theorem above_len6 {o : List (List Nat)} (ho : IsOrd o) (p : Nat) : (above o p).length ≤ 6 := by
  by_cases hp : p < o.length
  · exact Nat.le_trans (rise_len (ho.ris hp).1 (ho.ris hp).2) ho.most
  · have e : above o p = [] := by unfold above; simp [hp]
    rw [e]; exact Nat.zero_le _
theorem opts_len {o : List (List Nat)} (ho : IsOrd o) (w : List Nat) : ∀ n, (optsTo o w n).length ≤ n * 6
  | 0 => Nat.le_refl _
  | n + 1 => by
    have ih := opts_len ho w n
    have := above_len6 ho n
    rw [opts_succ, List.length_append]
    split
    · rw [List.length_map]; omega
    · rw [List.length_nil]; omega
theorem any_enc2 (l : List (Nat × Nat)) (q : Nat × Nat) : ((l.map enc2).any fun z => PyData.eqv z (enc2 q)) = decide (q ∈ l) := (any_eqv eqv_enc2 l q).trans (decide_eq_decide.mpr Iff.rfl)
theorem okOpts (l : List (Nat × Nat)) : okD (.list (l.map enc2)) = true := ok_enc2L l
/-! ### duplicate -/
def spD (K : PySem.W.Frag) (C : Addr) (R : Mv → Mv → Prop) : Sp := fun vs H Q E => ∃ a dx l G m m', vs = [.ref a] ∧ Same G H ∧ Tc G H ∧ isMv K C a dx l m G H (.ref a) ∧ R m m' ∧
  ∀ a' dx' l' H' G', Grow G H G' H' → (∀ b ∈ mvA a' dx' l', H b = none) → (∀ b ∈ mvA a' dx' l', G' b = none) → (movR K C a' dx' l' m').holds (.ref a') (mvA a' dx' l') G' H' → Q (.ref a') H'
structure DupM (P : Program) (w : World) (K : PySem.W.Frag) (mg : Str → Option Value) (base : Heap) (k : Nat) (C : Addr) (R : Mv → Mv → Prop) : Prop where
  ex : ∃ f fd ps, Meth K C "duplicate" f ∧ Binds K fd ps [] ∧ FnOk P w K mg base (L2.CX P w) k f fd ps (spD K C R)
section
variable {P : Program} {w : World} {K : PySem.W.Frag} {mg : Str → Option Value} {base : Heap}
theorem dup_of {qual : Str} {st : Stmt} {N : List Str} {k : Nat} {C : Addr} {R : Mv → Mv → Prop} {e : Expr} {pos : Pos} (D : MethAt K C "duplicate" qual st) (S : FnScope N ["self"] (defScope st))
    (hb : ∀ (kV doc pm : Value) (an : Option Addr) (cdv ct : Value) (us : List Value), us.length = (["self"] : List Str).length → bindArgs (PySem.W.fnOf "duplicate" qual (defArgs st) (defBody st) (defScope st) .none kV doc pm an cdv ct) ⟨us, []⟩ = pure ((["self"] : List Str).zip us))
    (hbody : defBody st = [.Return (some e) pos])
    (body : ∀ (f : Addr) (cdv : Value) (A : Around) (outer : List Env) (s : Shared) (H : Hp) (E : XK) (B : Bs) (a dx l : Addr) (vo : V) (vs : List V) (m m' : Mv), R m m' → Room k (cxD P w K mg base N qual st f cdv A outer s H E).A →
      TakesD (cxD P w K mg base N qual st f cdv A outer s H E) B (fun _ _ _ => False) →
      EVmk (cxD P w K mg base N qual st f cdv A outer s H E) B (fun _ _ _ => False) (rhoM N (.movV K C a dx l vo vs m) []) C e (.ok m')) : DupM P w K mg base (k + 1) C R := by
  obtain ⟨f, fd, F, M⟩ := D.ex
  refine ⟨f, fd, ["self"], M, F.binds hb, F.okX S (fun vs H Q E ⟨a, dx, l, G, m, m', e, _⟩ => by rw [e]; rfl) fun cdv A outer s H vs Q E hr ⟨a, dx, l, G, m, m', e0, sG, tG, ⟨_, hh, hg⟩, hR, q⟩ => ?_⟩
  subst e0
  have ne := movR.ne hh
  obtain ⟨_, _, vo, ws, r⟩ := hh
  have hv : (UP.movV K C a dx l vo ws m).holds (.ref a) (mvA a dx l) G H := ⟨rfl, rfl, r⟩
  have tk0 : Takes (cxD P w K mg base N qual st f cdv A outer s H E) (fun cls d _ H => E cls d H) := takes_of rfl rfl rfl rfl
  have tk : TakesD (cxD P w K mg base N qual st f cdv A outer s H E) ⟨G, sans H (mvA a dx l), tG.sans _⟩ (fun _ _ _ => False) := tk0.imp fun c d σ H' ⟨G', ρ', ln, en, xa, e⟩ => e.elim
  rw [hbody]
  exact ⟨_, pss_one (ps_ret (body f cdv A outer s H E ⟨G, sans H (mvA a dx l), tG.sans _⟩ a dx l vo ws m m' hR hr tk)), G, En.start1 sG tG hv ne hg .nil, fun a' dx' l' H' G' g h1 h2 h3 => q a' dx' l' H' G' g h1 h2 h3⟩
end
section
variable {X : Cx} {B : Bs} {ρ : DEnv} {o : Expr} {pos p apos pos' : Pos} {C a dx l : Addr} {m m' : Mv} {x : Str} {k i : Nat} {E : DE} {R : Mv → Mv → Prop}
/-- x = o.duplicate() -/
theorem sd_setDup {pl : Sem Bool} (hN : X.N.Nodup) (c : ClsM X.K C) (D : DupM X.prog X.w X.K X.mg X.base k C R) (hr : Room k X.A) (ho : EVP X B ρ o (isMv X.K C a dx l m)) (hR : R m m') (h : ∀ a' dx' l', E.nx (ρ.set i (.mov X.K C a' dx' l' m')))
    (ht : eval (.Call (.Attribute o "duplicate" apos) [] [] pos) X.env = (eval o X.env >>= fun ov => standAt apos.atName >>= fun _ => holding [ov] (getMethod ov "duplicate" pl) >>= fun r => callWith pos r.1 r.2 (backTo pos (starEach [] X.env)) (backToKw pos (keywordEach [] X.env))) := by rfl)
    (hi : X.N[i]? = some x := by rfl) (hx : Loc X.env.scope x := by first | exact Or.inl rfl | exact Or.inr rfl) (hs : swapsWith (.Call (.Attribute o "duplicate" apos) [] [] pos) (some (.Name x p)) pos'.line X.env = pure false := by rfl)
    (hf : X.fn x = true ∨ X.env.scope.names.lookup x = some .local := by first | exact .inl rfl | exact .inr rfl | assumption) : SD X B ρ (.Assign [.Name x p] (.Call (.Attribute o "duplicate" apos) [] [] pos) pos') E := by
  obtain ⟨f, fd, ps, M, hb, F⟩ := D.ex
  refine PS.imp (ps_set hN hi hx (pe_meth0 (pl := pl) (dvs := []) (ds := []) ho c.cls M F hr hb .nil passL ht) hs hf) fun D σ H ⟨G, en, h1, _⟩ => ⟨G, en, fun v H1 G1 g1 ⟨e, hh, n⟩ => ?_⟩
  obtain ⟨_, _, vo, vs, r1, r⟩ := id hh
  subst e
  refine ⟨a, dx, _, rfl, r1, rfl, a, dx, l, G1, m, m', rfl, g1.sub, g1.tc (en.gr.tc B.3), ⟨rfl, hh, n⟩, hR, fun a' dx' l' H' G' g hn gn hq => ?_⟩
  exact h1 _ _ G' H' (g1.gg.trans g.gg) ((en.grow g1).setRes g (R := movR X.K C a' dx' l' m') (nf := mvA a' dx' l') hq fun b hb => ⟨hn b hb, gn b hb, movR.ne hq b hb⟩) (h a' dx' l')
end
/-! ### __eq__ -/
def othS (K : PySem.W.Frag) (C : Addr) (vo : V) (vs : List V) : Oth → Slot
  | .mv a dx l m => .movV K C a dx l vo vs m
  | .dt d => .d d
def othA : Oth → List Addr
  | .mv a dx l _ => mvA a dx l
  | .dt _ => []
section
variable {P : Program} {w : World} {K : PySem.W.Frag} {mg : Str → Option Value} {base : Heap}
theorem oth_open {C : Addr} {G H : Hp} {v : V} : ∀ {o : Oth}, isOth K C o G H v → ∃ vo vs, SlotAt K G H (othS K C vo vs o) (some v) (othA o) ∧ (∀ b ∈ othA o, H b ≠ none) ∧ ∀ b ∈ othA o, G b = none
  | .mv a dx l m, ⟨e, hh, n⟩ => by
    have ne := movR.ne hh
    obtain ⟨e1, e2, vo, vs, r⟩ := hh
    exact ⟨vo, vs, ⟨v, rfl, e, e2, r⟩, ne, n⟩
  | .dt d, h => ⟨.non, [], ⟨rfl, v, rfl, h⟩, fun _ z => (nomatch z), fun _ z => (nomatch z)⟩
theorem oth_back {C : Addr} {G H G' H' : Hp} {vo : V} {vs : List V} {v v' : Option V} {fp' : List Addr} : ∀ {o : Oth}, SlotAt K G H (othS K C vo vs o) v (othA o) → SlotAt K G' H' (othS K C vo vs o) v' fp' → ∀ b ∈ othA o, H' b = H b
  | .mv a dx l m, ⟨_, _, h⟩, ⟨_, _, h'⟩ => movV.eq h h'
  | .dt d, _, _ => fun _ z => (nomatch z)
theorem oth_fp {C : Addr} {G H : Hp} {vo : V} {vs : List V} {v : Option V} {fp : List Addr} : ∀ {o : Oth}, SlotAt K G H (othS K C vo vs o) v fp → fp = othA o
  | .mv a dx l m, ⟨_, _, h⟩ => h.2.1
  | .dt d, ⟨h, _⟩ => h
theorem eqm_of {qual : Str} {st : Stmt} {k : Nat} {C : Addr} {R : Mv → Oth → Bool → Prop} (D : MethAt K C "__eq__" qual st) (S : FnScope ["self", "other"] ["self", "other"] (defScope st))
    (hb : ∀ (kV doc pm : Value) (an : Option Addr) (cdv ct : Value) (us : List Value), us.length = (["self", "other"] : List Str).length → bindArgs (PySem.W.fnOf "__eq__" qual (defArgs st) (defBody st) (defScope st) .none kV doc pm an cdv ct) ⟨us, []⟩ = pure ((["self", "other"] : List Str).zip us))
    (body : ∀ (f : Addr) (cdv : Value) (A : Around) (outer : List Env) (s : Shared) (H : Hp) (E : XK) (B : Bs) (a dx l : Addr) (vo vo' : V) (vs vs' : List V) (m : Mv) (o : Oth) (b : Bool), R m o b → Room k (cxD P w K mg base ["self", "other"] qual st f cdv A outer s H E).A →
      SDs (cxD P w K mg base ["self", "other"] qual st f cdv A outer s H E) B [.movV K C a dx l vo vs m, othS K C vo' vs' o] (defBody st) { nx := fun _ => False, rt := fun ρ d => d = .bool b ∧ ρ = [.movV K C a dx l vo vs m, othS K C vo' vs' o] }) : EqM P w K mg base (k + 1) C R := by
  obtain ⟨f, fd, F, M⟩ := D.ex
  refine ⟨f, fd, ["self", "other"], M, F.binds hb, F.okX S (fun vs H Q E ⟨a, dx, l, v, G, m, o, b, e, _⟩ => by rw [e]; rfl) fun cdv A outer s H vs Q E hr ⟨a, dx, l, v, G, m, o, b, e0, sG, tG, ⟨_, hh, hg⟩, ho, hap, hR, q⟩ => ?_⟩
  subst e0
  have ne := movR.ne hh
  obtain ⟨_, _, vo, ws, r⟩ := hh
  have hv : (UP.movV K C a dx l vo ws m).holds (.ref a) (mvA a dx l) G H := ⟨rfl, rfl, r⟩
  obtain ⟨vo', ws', ho', ne', hg'⟩ := oth_open ho
  have hap' : ∀ c ∈ othA o, c ∉ mvA a dx l := by
    cases o with
    | mv a' dx' l' m' => exact hap a' dx' l' m' rfl
    | dt d => exact fun _ z => (nomatch z)
  have en0 : En K ⟨G, sans H (mvA a dx l ++ othA o), tG.sans _⟩ G H (L2.start ["self", "other"] [.ref a, v]) [.movV K C a dx l vo ws m, othS K C vo' ws' o] := by
    refine ⟨⟨Same.refl _, fun b o e => (sans_some e).2, sG, fun _ _ e => e, fun _ => tG⟩, rfl, fun i => if i = 0 then mvA a dx l else if i = 1 then othA o else [], fun i sl u h1 h2 => ?_, fun i j c h1 h2 => ?_, fun i c hc => ?_⟩
    · match i with
      | 0 =>
        have h1' : some (Slot.movV K C a dx l vo ws m) = some sl := h1
        have h2' : some (some (V.ref a)) = some u := h2
        cases h1'; cases h2'
        exact ⟨.ref a, rfl, hv⟩
      | 1 =>
        have h1' : some (othS K C vo' ws' o) = some sl := h1
        have h2' : some (some v) = some u := h2
        cases h1'; cases h2'
        exact ho'
      | i + 2 => cases h1
    · match i, j with
      | 0, 0 => rfl
      | 1, 1 => rfl
      | 0, 1 => exact absurd h1 (hap' c h2)
      | 1, 0 => exact absurd h2 (hap' c h1)
      | 0, j + 2 => cases h2
      | 1, j + 2 => cases h2
      | i + 2, _ => cases h1
    · match i with
      | 0 => exact ⟨hg c hc, sans_in (List.mem_append.mpr (.inl hc)), ne c hc⟩
      | 1 => exact ⟨hg' c hc, sans_in (List.mem_append.mpr (.inr hc)), ne' c hc⟩
      | i + 2 => cases hc
  refine ⟨_, body f cdv A outer s H E ⟨G, sans H (mvA a dx l ++ othA o), tG.sans _⟩ a dx l vo vo' ws ws' m o b hR hr, G, en0, fun _ _ _ _ _ _ z => z.elim, fun ρ' d u σ' G' H' s' en' dd e => ?_, fun _ _ _ _ _ _ z => z.elim, fun _ _ _ _ _ _ z => z.elim⟩
  obtain ⟨e, e0⟩ : d = .bool b ∧ ρ' = [.movV K C a dx l vo ws m, othS K C vo' ws' o] := e
  subst e e0
  cases dd
  obtain ⟨q1, q2⟩ := en'.movV (j := 0) rfl
  obtain ⟨fp, Fp⟩ := en'.fp
  have l1 : 1 < σ'.length := by rw [← en'.len]; exact Nat.lt_succ_self 1
  have w1 := Fp.at_ 1 _ _ rfl (List.getElem?_eq_getElem l1)
  have f1 := oth_fp w1
  refine q H' G' (grow_sans en'.gr (fun c hc => ?_) fun c hc => ?_)
  · rcases List.mem_append.mp hc with z | z
    · exact movV.eq hv q1 c z
    · exact oth_back ho' w1 c z
  · rcases List.mem_append.mp hc with z | z
    · exact q2 c z
    · exact (Fp.own 1 c (by rw [f1]; exact z)).1
end
section
variable {X : Cx} {B : Bs} {ρ : DEnv} {o b' : Expr} {pos p p1 apos : Pos} {C a dx l : Addr} {m m' : Mv} {x : Str} {ot : Oth}
abbrev MvAt (mg : Str → Option Value) (C : Addr) : Prop := mg "Mover" = some (.ref C)
/-- isinstance(o, Mover) -/
theorem ev_isMover (ce : ClsE X.K C) (hm : X.mg "isinstance" = none) (hx : X.mg x = some (.ref C)) (ho : EVP X B ρ o (isOth X.K C ot)) (hg : Gl X "isinstance" := by rfl) (hg2 : Gl X x := by rfl) (hdb : (x == ("__debug__" : Str)) = false := by decide)
    (he : starEach [o, .Name x p1] X.env = (false, eval o X.env) :: starEach [.Name x p1] X.env := by rfl) (he2 : starEach [.Name x p1] X.env = [(false, eval (.Name x p1) X.env)] := by rfl) (hpl : (backTo pos (starEach [.Name x p1] X.env)).any (·.1) = false := by rfl) :
    EV X B ρ (.Call (.Name "isinstance" p) [o, .Name x p1] [] pos) (.bool ot.isMv) := by
  refine PE.imp (pe_callB call_isi hg hm bt_isi (pa_cons ho (pa_cons (ev_cls hx hg2 hdb) pa_nil he2) he) (by decide) (by decide) he hpl) fun σ H Q ⟨G, en, k⟩ => ⟨G, en, fun v H1 G1 g1 p1 => ⟨G1, en.grow g1, fun y H2 G2 g2 p2 => ?_⟩⟩
  subst p2
  obtain ⟨t, ty, _, kk⟩ := oth_ty ce g2.sub (stb_oth _ _ _ _ _ g2 p1)
  exact ⟨v, .ref C, t, _, _, rfl, .own C, ty, kk, k _ H2 G2 (g1.trans g2) (.bl _)⟩
theorem ev_othV (i : Nat) {vo : V} {vs : List V} (hρ : ρ[i]? = some (othS X.K C vo vs ot)) (hN : X.N[i]? = some x := by rfl) (hv : Vis X.env.scope x := by first | exact Or.inl rfl | exact Or.inr (Or.inl rfl) | exact Or.inr (Or.inr rfl))
    (hd : (x == ("__debug__" : Str)) = false := by decide) (hcd : (x == ("__classdict__" : Str)) = false := by decide) : EVP X B ρ (.Name x pos) (isOth X.K C ot) := by
  cases ot with
  | mv a dx l m => exact ev_mov i hρ isMov_v hN hv hd hcd
  | dt d => exact ev_var i hρ hN hv hd hcd
end
end UP

/-! NB: loops with a state; rows of weights as a mover's steps. -/
namespace UP
open PySem PySem.Spec L2
section
variable {X : Cx} {B : Bs} {ρ : DEnv} {tg : Expr} {pos : Pos} {E : DE} {st : Stmt} {rest : List Stmt}
/-- a loop, by a state between its turns -/
theorem sd_forS {α S : Type} {xs : List α} {f : α → PyData} {iter : Expr} {body : List Stmt} (ρw : S → DEnv) (C : Nat → S → Prop) (vs : List Nat) (ρ' : α → S → DEnv) (s0 : S) (po : PassesOwn (model X.prog X.w) X.A X.env X.xe) (hc : X.calm = true) (hi : IV X B ρ tg iter (xs.map f)) (h0 : Le ρ (ρw s0)) (c0 : C 0 s0)
    (hg : ∀ (i : Nat) (y : α) (s : S), xs[i]? = some y → C i s → GV X B (ρw s) tg (f y) vs (ρ' y s))
    (hs : ∀ (i : Nat) (y : α) (s : S), xs[i]? = some y → C i s → SDs X B (ρ' y s) body { E with nx := fun ρ => ∃ s', Le ρ (ρw s') ∧ C (i + 1) s', ct := fun ρ => ∃ s', Le ρ (ρw s') ∧ C (i + 1) s', bk := E.nx }) (hd : ∀ ρn s, Le ρn (ρw s) → C xs.length s → E.nx ρn)
    (hsi : ∀ x, foldedSetIterable iter X.env x = pure x := by intro _; rfl) : SD X B ρ (.For tg iter body [] pos) E :=
  sd_for (fun i ρ => ∃ s, Le ρ (ρw s) ∧ C i s) vs po hc hi ⟨s0, h0, c0⟩ (fun i y ρi hy ⟨s, le, cs⟩ => ⟨ρ' y s, gv_weak le (hg i y s hy cs), hs i y s hy cs⟩) (fun ρn ⟨s, le, cs⟩ => hd ρn s le cs) hsi
/-- a statement, then the rest from whatever it leaves -/
theorem sd_seqE (M : DEnv → Prop) (h : SD X B ρ st { E with nx := M }) (k : ∀ ρ', M ρ' → SDs X B ρ' rest E) : SDs X B ρ (st :: rest) E :=
  sd_seq (DE.sub h (fun ρ' m => k ρ' m) (fun _ _ z => z) (fun _ z => z) fun _ z => z)
end
/-- a step's data, possible or not -/
def stepAny (v : List Nat) (s g : Nat) : PyData := .tuple ((List.range v.length).map fun i => PyData.int (((v.getD i 0 : Nat) : Int) - (if i = s then 1 else 0) + (if i = g then 1 else 0)))
theorem stepAny_ok {v : List Nat} {s g : Nat} (h0 : 0 < v.getD s 0) : stepAny v s g = encR (stepN v s g) := by
  unfold stepAny stepN
  show PyData.tuple _ = PyData.tuple _
  rw [List.map_map]
  congr 1
  refine List.map_congr_left fun i _ => ?_
  show PyData.int (((v.getD i 0 : Nat) : Int) - (if i = s then 1 else 0) + (if i = g then 1 else 0)) = PyData.int ((v.getD i 0 - (if i = s then 1 else 0) + (if i = g then 1 else 0) : Nat) : Int)
  congr 1
  have hx0 : i = s → 0 < v.getD i 0 := fun e => e ▸ h0
  generalize v.getD i 0 = x at hx0 ⊢
  by_cases e : i = s
  · have := hx0 e
    by_cases e2 : i = g
    · simp only [if_pos e, if_pos e2]; omega
    · simp only [if_pos e, if_neg e2]; omega
  · by_cases e2 : i = g
    · simp only [if_neg e, if_pos e2]; omega
    · simp only [if_neg e, if_neg e2]; omega
theorem okStep {v : List Nat} {s g : Nat} : okD (stepAny v s g) = true := okD_of 1 (ok_tuple (ok_map (fun _ => ok_int) _))
/-- the rows that a mover has been through -/
structure RowsOk (o : List (List Nat)) (w0 : List Nat) (rows : List (List Nat)) : Prop where
  ord : IsOrd o
  ne : rows ≠ []
  hd : rows[0]? = some w0
  all : ∀ w ∈ rows, IsW o.length w ∧ w.sum = w0.sum ∧ NoPaper o w0 w
theorem RowsOk.mv {o : List (List Nat)} {w0 : List Nat} {rows : List (List Nat)} (h : RowsOk o w0 rows) : MvOk ⟨o, rows, 0⟩ := ⟨h.ord, h.ne, fun w hw => (h.all w hw).1, rfl⟩
theorem RowsOk.pop {o : List (List Nat)} {w0 : List Nat} {rows : List (List Nat)} (h : RowsOk o w0 rows) (h1 : 1 < rows.length) : RowsOk o w0 rows.dropLast := by
  refine ⟨h.ord, fun z => ?_, ?_, fun w hw => h.all w (List.dropLast_subset _ hw)⟩
  · have := congrArg List.length z
    rw [List.length_dropLast, List.length_nil] at this
    omega
  · rw [List.dropLast_eq_take, List.getElem?_take, if_pos (by omega)]
    exact h.hd
def lastOf (rows : List (List Nat)) : List Nat := rows.getLastD []
theorem lastOf_mem {rows : List (List Nat)} (h : rows ≠ []) : lastOf rows ∈ rows := by
  unfold lastOf
  rw [getLastD_eq h]
  exact List.getLast_mem h
theorem lastOf_ix {rows : List (List Nat)} (h : rows ≠ []) : atI (rows.map encR) (-1) = some (encR (lastOf rows)) := by
  unfold lastOf
  rw [getLastD_eq h]
  exact ix_last h
theorem last2_ix {rows : List (List Nat)} (h : 1 < rows.length) : atI (rows.map encR) (-2) = some (encR (lastOf rows.dropLast)) := by
  have hne : rows.dropLast ≠ [] := fun z => by
    have := congrArg List.length z
    rw [List.length_dropLast, List.length_nil] at this
    omega
  unfold atI ixN
  rw [List.length_map, if_neg (by omega), if_pos (by omega)]
  have e : (-2 + (rows.length : Int)).toNat = rows.length - 2 := by omega
  show (rows.map encR)[(-2 + (rows.length : Int)).toNat]? = _
  rw [e, List.getElem?_map]
  unfold lastOf
  rw [getLastD_eq hne, List.getLast_eq_getElem]
  have l2 : rows.dropLast.length - 1 = rows.length - 2 := by rw [List.length_dropLast]; omega
  rw [List.getElem?_eq_getElem (by omega : rows.length - 2 < rows.length)]
  simp only [l2, List.getElem_dropLast, Option.map_some]
theorem cut_init (ds : List PyData) : cutD ds none (some (-1)) = ds.dropLast := by
  unfold cutD
  rw [show HT.sIx ds.length 0 none = 0 from rfl, List.drop_zero, Nat.sub_zero, List.dropLast_eq_take]
  show ds.take (if (-1 : Int) < 0 then (-1 + (ds.length : Int)).toNat else min (-1 : Int).toNat ds.length) = _
  rw [if_pos (by decide)]
  congr 1
  omega
theorem RowsOk.push {o : List (List Nat)} {w0 : List Nat} {rows : List (List Nat)} {s g : Nat} (h : RowsOk o w0 rows) (hs : s < o.length) (hg : g ∈ above o s) (h0 : 0 < (lastOf rows).getD s 0) : RowsOk o w0 (rows ++ [stepN (lastOf rows) s g]) := by
  obtain ⟨q1, q2, q3⟩ := h.all _ (lastOf_mem h.ne)
  have hgl : g < o.length := (h.ord.ris hs).2 g hg
  refine ⟨h.ord, by simp, ?_, fun w hw => ?_⟩
  · rw [List.getElem?_append_left (List.length_pos_iff.mpr h.ne)]
    exact h.hd
  · rcases List.mem_append.mp hw with z | z
    · exact h.all w z
    · rw [List.mem_singleton.mp z]
      have e := stepN_sum (v := lastOf rows) (s := s) (g := g) (by rw [q1.1]; exact hs) (by rw [q1.1]; exact hgl) h0
      exact ⟨⟨by rw [stepN_len]; exact q1.1, by rw [e]; exact q1.2⟩, by rw [e]; exact q2, noPaper_trans q3 (noPaper_step h.ord q1.1 hs hg h0)⟩
/-! ### texts by their code points -/
def tl : List Nat → List Nat
  | [] => []
  | [x] => [48 + x]
  | x :: y :: r => (48 + x) :: 32 :: tl (y :: r)
theorem tok_eq : ∀ n : Nat, n ≤ 9 → tokS n = ⟨#[48 + n]⟩
  | 0, _ | 1, _ | 2, _ | 3, _ | 4, _ | 5, _ | 6, _ | 7, _ | 8, _ | 9, _ => by decide +kernel
  | n + 10, h => by omega
theorem textOf_eq : ∀ a : List Nat, (∀ x ∈ a, x ≤ 9) → textOf a = ⟨(tl a).toArray⟩
  | [], _ => by decide +kernel
  | [x], h => by
    unfold textOf
    show PySem.Builtin.Str.glued _ _ = _
    rw [StrLaws.glued_eq_join]
    show tokS x = _
    rw [tok_eq x (h x (by simp))]
    rfl
  | x :: y :: r, h => by
    have ih := textOf_eq (y :: r) fun z hz => h z (List.mem_cons_of_mem _ hz)
    unfold textOf at ih ⊢
    have e : Txt.join (" " : Str) ((x :: y :: r).map tokS) = tokS x ++ (" " : Str) ++ Txt.join (" " : Str) ((y :: r).map tokS) := by
      show PySem.Builtin.Str.glued _ _ = _ ++ _ ++ PySem.Builtin.Str.glued _ _
      rw [StrLaws.glued_eq_join, StrLaws.glued_eq_join]
      rfl
    rw [e, ih, tok_eq x (h x (by simp))]
    show Str.append (Str.append _ _) _ = _
    unfold Str.append
    congr 1
    rw [show (Str.ofString " ").cps = #[32] from by decide +kernel]
    simp [tl]
theorem tl_lt : ∀ a : List Nat, (∀ x ∈ a, x ≤ 9) → ∀ c ∈ tl a, c < 58
  | [], _, c, hc => by cases hc
  | [x], h, c, hc => by
    have := h x (by simp)
    rw [List.mem_singleton.mp hc]; omega
  | x :: y :: r, h, c, hc => by
    have := h x (by simp)
    rcases List.mem_cons.mp hc with z | z
    · omega
    · rcases List.mem_cons.mp z with z | z
      · omega
      · exact tl_lt (y :: r) (fun z hz => h z (List.mem_cons_of_mem _ hz)) c z
theorem okText {n : Nat} {a : List Nat} (h : IsW n a) : okD (.str (textOf a)) = true := by
  refine okD_of 1 (ok_str ?_)
  rw [textOf_eq a h.nine]
  unfold PyData.strOk
  rw [List.all_toArray, List.all_eq_true]
  intro c hc
  have := tl_lt a h.nine c hc
  exact decide_eq_true (by omega)
end UP

/-! NC: a second name of a mover; isinstance of a caught error and a built-in class; what the class says for ==. -/
namespace UP
open PySem PySem.Spec L2
theorem ok_self {n : Nat} {d : PyData} (h : Ok n d) : PyData.eqv d d = true := SeqAt.eqv_refl d (ok_facts n d h).1
/-- a name of a mover that is held elsewhere -/
def ptrR (a : Addr) : Res where
  holds := fun v fp _ _ => v = .ref a ∧ fp = []
  stab := fun _ _ _ _ _ _ h _ _ => h
section
variable {X : Cx} {B : Bs} {ρ : DEnv} {e : Expr} {pos p p2 : Pos} {C a dx l : Addr} {m : Mv} {x y : Str} {i j : Nat} {E : DE}
theorem En.alias {K : PySem.W.Frag} {G H : Hp} {σ : L2.St} (en : En K B G H σ ρ) (hρ : ρ[j]? = some (.mov K C a dx l m)) (hij : i ≠ j) : En K B G H (σ.set i (some (.ref a))) ((ρ.set j (.res (ptrR a))).set i (.mov K C a dx l m)) := by
  have e1 := (en.mov hρ).1
  obtain ⟨gr, len, fp, F⟩ := en
  refine ⟨gr, by simpa using len, fun k => if k = i then fp j else if k = j then [] else fp k, fun k s o h1 h2 => ?_, fun k k' c h1 h2 => ?_, fun k c hc => ?_⟩
  · by_cases hk : k = i
    · subst hk
      rw [if_pos rfl]
      by_cases hl : k < ρ.length
      · rw [List.getElem?_set_self (by rw [List.length_set]; exact hl)] at h1
        rw [List.getElem?_set_self (by rw [← len]; exact hl)] at h2
        cases h1; cases h2
        exact F.at_ j _ _ hρ e1
      · rw [List.getElem?_eq_none (by simpa using hl)] at h1; cases h1
    · rw [if_neg hk]
      rw [List.getElem?_set_ne (Ne.symm hk)] at h1 h2
      by_cases hj : k = j
      · subst hj
        rw [if_pos rfl]
        have hl : k < ρ.length := (List.getElem?_eq_some_iff.mp hρ).1
        rw [List.getElem?_set_self hl] at h1
        rw [e1] at h2
        cases h1; cases h2
        exact ⟨.ref a, rfl, rfl, rfl⟩
      · rw [if_neg hj]
        rw [List.getElem?_set_ne (Ne.symm hj)] at h1
        exact F.at_ k s o h1 h2
  · have key : ∀ k, c ∈ (if k = i then fp j else if k = j then [] else fp k) → (k = i ∧ c ∈ fp j) ∨ (k ≠ i ∧ k ≠ j ∧ c ∈ fp k) := fun k h => by
      by_cases hk : k = i
      · rw [if_pos hk] at h; exact .inl ⟨hk, h⟩
      · rw [if_neg hk] at h
        by_cases hj : k = j
        · rw [if_pos hj] at h; cases h
        · rw [if_neg hj] at h; exact .inr ⟨hk, hj, h⟩
    rcases key k h1 with ⟨a1, b1⟩ | ⟨a1, c1, b1⟩ <;> rcases key k' h2 with ⟨a2, b2⟩ | ⟨a2, c2, b2⟩
    · rw [a1, a2]
    · exact absurd (F.apart j k' c b1 b2).symm c2
    · exact absurd (F.apart k j c b1 b2) c1
    · exact F.apart k k' c b1 b2
  · by_cases hk : k = i
    · rw [if_pos hk] at hc; exact F.own j c hc
    · rw [if_neg hk] at hc
      by_cases hj : k = j
      · rw [if_pos hj] at hc; cases hc
      · rw [if_neg hj] at hc; exact F.own k c hc
/-- x = y, y a mover: x holds it from now on -/
theorem sd_alias (hN : X.N.Nodup) (hρ : ρ[j]? = some (.mov X.K C a dx l m)) (hij : i ≠ j) (h : E.nx ((ρ.set j (.res (ptrR a))).set i (.mov X.K C a dx l m))) (hNj : X.N[j]? = some y := by rfl) (hv : Vis X.env.scope y := by first | exact Or.inl rfl | exact Or.inr (Or.inl rfl) | exact Or.inr (Or.inr rfl))
    (hd : (y == ("__debug__" : Str)) = false := by decide) (hcd : (y == ("__classdict__" : Str)) = false := by decide) (hi : X.N[i]? = some x := by rfl) (hx : Loc X.env.scope x := by first | exact Or.inl rfl | exact Or.inr rfl) (hs : swapsWith (.Name y p2) (some (.Name x p)) pos.line X.env = pure false := by rfl)
    (hf : X.fn x = true ∨ X.env.scope.names.lookup x = some .local := by first | exact .inl rfl | exact .inr rfl | assumption) : SD X B ρ (.Assign [.Name x p] (.Name y p2) pos) E :=
  PS.imp (ps_set hN hi hx (pe_var (i := j) hNj hv hd hcd) hs hf) fun D σ H ⟨G, en, h1, _⟩ => ⟨_, (en.mov hρ).1, h1 _ _ G H (Same.refl _) (en.alias hρ hij) h⟩
theorem ev_ptr (j i : Nat) {s : Slot} (hj : ρ[j]? = some (.res (ptrR a))) (hρ : ρ[i]? = some s) (hs : IsMov X.K s C a dx l m) (hN : X.N[j]? = some x := by rfl) (hv : Vis X.env.scope x := by first | exact Or.inl rfl | exact Or.inr (Or.inl rfl) | exact Or.inr (Or.inr rfl))
    (hd : (x == ("__debug__" : Str)) = false := by decide) (hcd : (x == ("__classdict__" : Str)) = false := by decide) : EVP X B ρ (.Name x pos) (isMv X.K C a dx l m) := by
  obtain ⟨R, rfl, hR⟩ := hs
  refine PE.imp (pe_var (i := j) hN hv hd hcd) fun σ H Q ⟨G, en, k⟩ => ?_
  obtain ⟨v, nf, e, q, own⟩ := en.getRes hρ
  obtain ⟨v', nf', e', ⟨q1, q2⟩, _⟩ := en.getRes hj
  have q' := hR _ _ _ _ q
  obtain ⟨rfl, rfl, r⟩ := id q'
  subst q1
  exact ⟨_, e', k _ H G (Grow.refl en.sub) ⟨rfl, q', fun b hb => (own b hb).1⟩⟩
end
/-! ### isinstance(e, T), T built-in -/
structure IsB (K : PySem.W.Frag) (C : Addr) (T : String) (b : Bool) : Prop where
  i : PySem.W.kitOne K (.ref C) (.type T) = some b
theorem isB_mk {K : PySem.W.Frag} {C : Addr} {T : String} {b : Bool} (h : PySem.W.subIn K (.ref C) (.type T) = some b) (hc : PySem.W.kitMeta T = true) : IsB K C T b := by
  constructor
  unfold PySem.W.kitOne
  rw [if_neg (by simp)]
  show (if PySem.W.kitMeta T = true then PySem.W.subIn K (.ref C) (.type T) else none) = some b
  rw [if_pos hc, h]
section
variable {X : Cx} {B : Bs} {ρ : DEnv} {q : Addr} {ob : Obj} {pn : List (Addr × Obj)} {C : Addr} {i : Nat} {x n : Str} {p p1 p2 pos : Pos}
theorem ev_isEB (i : Nat) {ln : Option PyData} {b : Bool} {T : String} (y : ExcC X.K C) (hz : Zc (.ref C) none ob) (hf : ∃ fs, ob.data = .fields fs) (hm : X.mg "isinstance" = none) (hx : X.mg x = none) (hb : bootBuiltins x = some (.type T)) (ia : IsB X.K C T b) (hρ : ρ[i]? = some (.res (excR X.K q none ln)) := by rfl) (hN : X.N[i]? = some n := by rfl)
    (hv : Vis X.env.scope n := by first | exact Or.inl rfl | exact Or.inr (Or.inl rfl) | exact Or.inr (Or.inr rfl)) (hg : Gl X "isinstance" := by rfl) (hg2 : Gl X x := by rfl) (hd : (n == ("__debug__" : Str)) = false := by decide) (hcd : (n == ("__classdict__" : Str)) = false := by decide) (hn : x ≠ "__name__" := by decide) (hdb : (x == ("__debug__" : Str)) = false := by decide)
    (he : starEach [.Name n p1, .Name x p2] X.env = (false, eval (.Name n p1) X.env) :: starEach [.Name x p2] X.env := by rfl) (he2 : starEach [.Name x p2] X.env = [(false, eval (.Name x p2) X.env)] := by rfl) (hpl : (backTo pos (starEach [.Name x p2] X.env)).any (·.1) = false := by rfl) :
    EV (X.suite q ((q, ob) :: pn)) B ρ (.Call (.Name "isinstance" p) [.Name n p1, .Name x p2] [] pos) (.bool b) := by
  have h1 : EVP (X.suite q ((q, ob) :: pn)) B ρ (.Name n p1) (fun G H v => v = .ref q ∧ XAt X.K G H none ln) := ev_exc (X := X.suite q ((q, ob) :: pn)) i hρ hN hv hd hcd
  have h2 : EVP (X.suite q ((q, ob) :: pn)) B ρ (.Name x p2) (fun _ _ v => v = .ty T) := ev_ty (X := X.suite q ((q, ob) :: pn)) hx hb hg2 hn hdb
  refine PE.imp (pe_callB (call_isE y hz hf) hg hm bt_isi (pa_cons h1 (pa_cons h2 pa_nil he2) he) (by decide) (by decide) he hpl) fun σ H Q ⟨G, en, k⟩ => ⟨G, en, fun x H1 G1 g1 p1 => ⟨G1, en.grow g1, fun y H2 G2 g2 p2 => ?_⟩⟩
  obtain ⟨rfl, _⟩ := p1
  subst p2
  exact ⟨.ty T, .type T, b, rfl, fun u r => by cases r; rfl, ia.i, k _ H2 G2 (g1.trans g2) (.bl _)⟩
end
theorem bt_ve : bootBuiltins "ValueError" = some (.type "ValueError") := by decide +kernel
/-! ### what the class says for == -/
theorem sub_ty {K : PySem.W.Frag} {C : Addr} (d : PyData) : PySem.W.subIn K (.type (tyD d)) (.ref C) = some false := by
  have key : ∀ (T : String) (l : List Value), fastBuiltinMro T = some l → l.contains (.ref C) = false → PySem.W.subIn K (.type T) (.ref C) = some false := fun T l e h => by
    show (fastBuiltinMro T).map (·.contains (.ref C)) = some false
    rw [e]
    show some (l.contains (.ref C)) = _
    rw [h]
  cases d with
  | none => exact key "NoneType" [.type "NoneType", .type "object"] (by decide +kernel) (by simp)
  | bool _ => exact key "bool" [.type "bool", .type "int", .type "object"] (by decide +kernel) (by simp)
  | int _ => exact key "int" [.type "int", .type "object"] (by decide +kernel) (by simp)
  | str _ => exact key "str" [.type "str", .type "object"] (by decide +kernel) (by simp)
  | list _ => exact key "list" [.type "list", .type "object"] (by decide +kernel) (by simp)
  | tuple _ => exact key "tuple" [.type "tuple", .type "object"] (by decide +kernel) (by simp)
  | dict _ => exact key "list" [.type "list", .type "object"] (by decide +kernel) (by simp)
theorem clsE_mk {K : PySem.W.Frag} {C : Addr} (cm : ClsM K C) (ha : PySem.W.findIn K (.ref C) "__class__" = some (some (.builtin "object.__class__"))) (hn : PySem.W.specialIn K (.builtin "object.__class__") "__get__" = some (some (.builtin "getset_descriptor.__get__"))) (ht : PySem.W.takesIn K (.builtin "object.__class__") = some true) (hm : PySem.W.mroIn K C (.type "object") = some true)
    (ic : PySem.W.isClsIn K C = true) (ty : PySem.W.typeIn K (.ref C) = some (.type "type")) (ne : PySem.W.findIn K (.ref C) "__ne__" = some (some (.builtin "object.__ne__"))) : ClsE K C := by
  refine ⟨⟨cm.cls, ha, hn, ht, hm, ?_⟩, ne, sub_ty, fun d => ?_⟩
  · unfold PySem.W.kitOne
    rw [if_pos (by simp)]
  · unfold PySem.W.kitOne
    rw [if_neg (by simp)]
    show (if ((PySem.W.clsIn K C).isSome && PySem.W.typeIn K (.ref C) == some (.type "type")) = true then PySem.W.subIn K (.type (tyD d)) (.ref C) else none) = some false
    have z : (PySem.W.clsIn K C).isSome = true := ic
    rw [z, ty, if_pos (by simp)]
    exact sub_ty d
end UP

/-! ND: two movers at once; the moves of a plan, one by one. -/
namespace UP
open PySem PySem.Spec L2
section
variable {X : Cx} {B : Bs} {ρ : DEnv} {e1 e2 : Expr} {pos : Pos} {C : Addr} {m1 m2 : Mv} {x y : Str} {i j : Nat} {E : DE}
/-- x, y = Mover(..), Mover(..) -/
theorem sd_parMk {px py pt : Pos} {kt k2 pt2} (hc : X.calm = true) (hN : X.N.Nodup) (h1 : EVmk X B E.ex ρ C e1 (.ok m1)) (h2 : EVmk X B E.ex ρ C e2 (.ok m2)) (h : ∀ a dx l a' dx' l', E.nx ((ρ.set i (.mov X.K C a dx l m1)).set j (.mov X.K C a' dx' l' m2))) (hij : i ≠ j := by decide) (hi : X.N[i]? = some x := by rfl) (hj : X.N[j]? = some y := by rfl)
    (hx : X.env.scope.names.lookup x = some .local := by rfl) (hy : X.env.scope.names.lookup y = some .local := by rfl) (he : starEach [e1, e2] X.env = (false, eval e1 X.env) :: starEach [e2] X.env := by rfl) (he2 : starEach [e2] X.env = [(false, eval e2 X.env)] := by rfl)
    (hw : swappedStores [.Tuple [.Name x px, .Name y py] kt pt] (.Tuple [e1, e2] k2 pt2) X.env = pure (some [x, y]) := by rfl)
    (hs : swapsWithSole [.Tuple [.Name x px, .Name y py] kt pt] (.Tuple [e1, e2] k2 pt2) pos.line X.env = pure false := by rfl) : SD X B ρ (.Assign [.Tuple [.Name x px, .Name y py] kt pt] (.Tuple [e1, e2] k2 pt2) pos) E :=
  PS.imp (ps_par hc hN hi hj hij hx hy (pa_cons h1 (pa_cons h2 pa_nil he2) he) hw hs) fun D σ H ⟨G, en, q1, _⟩ => ⟨G, en, fun a dx l H1 G1 g1 hn gn hh => ⟨G1, en.grow g1, fun a' dx' l' H2 G2 g2 hn' gn' hh' => by
    have en1 := en.setRes (i := i) g1 (R := movR X.K C a dx l m1) (nf := mvA a dx l) hh fun b hb => ⟨hn b hb, gn b hb, movR.ne hh b hb⟩
    have en2 := en1.setRes (i := j) g2 (R := movR X.K C a' dx' l' m2) (nf := mvA a' dx' l') hh' fun b hb => ⟨hn' b hb, gn' b hb, movR.ne hh' b hb⟩
    exact ⟨_, _, rfl, q1 _ _ G2 H2 (g1.gg.trans g2.gg) en2 (h a dx l a' dx' l')⟩⟩⟩
end
/-! ### the moves of a plan -/
def nonS (r : Row) : Bool := decide (r.1 ≠ r.2.1)
def outS (rows : List Row) (p : Nat) : Nat := rsum (fun r => decide (r.1 = p) && nonS r) rows
def inS (rows : List Row) (p : Nat) : Nat := rsum (fun r => decide (r.2.1 = p) && nonS r) rows
def selfS (rows : List Row) (p : Nat) : Nat := rsum (fun r => decide (r.1 = p) && !nonS r) rows
theorem out_self (p : Nat) : ∀ rows : List Row, outS rows p + selfS rows p = rsum (fun r => decide (r.1 = p)) rows
  | [] => rfl
  | r :: rows => by
    have ih := out_self p rows
    unfold outS selfS at ih ⊢
    rw [rsum_cons, rsum_cons, rsum_cons, ← ih]
    cases decide (r.1 = p) <;> cases nonS r <;> simp <;> omega
theorem in_self (p : Nat) : ∀ rows : List Row, inS rows p + selfS rows p = rsum (fun r => decide (r.2.1 = p)) rows
  | [] => rfl
  | r :: rows => by
    have ih := in_self p rows
    unfold inS selfS at ih ⊢
    rw [rsum_cons, rsum_cons, rsum_cons, ← ih]
    by_cases e : r.1 = r.2.1
    · have hn : nonS r = false := by unfold nonS; exact decide_eq_false (fun h => h e)
      rw [hn, e]
      cases decide (r.2.1 = p) <;> simp <;> omega
    · have hn : nonS r = true := by unfold nonS; exact decide_eq_true e
      rw [hn]
      cases decide (r.2.1 = p) <;> simp <;> omega
theorem rsum_le (f : Row → Bool) : ∀ rows : List Row, rsum f rows ≤ (rows.map fun r => r.2.2).sum
  | [] => Nat.le_refl _
  | r :: rows => by
    have ih := rsum_le f rows
    rw [rsum_cons, List.map_cons, List.sum_cons]
    split <;> omega
theorem out_snoc (l : List Row) (r : Row) (p : Nat) : outS (l ++ [r]) p = outS l p + if r.1 = p ∧ nonS r = true then r.2.2 else 0 := by
  unfold outS
  rw [rsum_append, rsum_cons]
  by_cases h1 : r.1 = p <;> by_cases h2 : nonS r = true <;> simp [h1, h2, rsum]
theorem in_snoc (l : List Row) (r : Row) (p : Nat) : inS (l ++ [r]) p = inS l p + if r.2.1 = p ∧ nonS r = true then r.2.2 else 0 := by
  unfold inS
  rw [rsum_append, rsum_cons]
  by_cases h1 : r.2.1 = p <;> by_cases h2 : nonS r = true <;> simp [h1, h2, rsum]
def nsum (rows : List Row) : Nat := rsum nonS rows
theorem nsum_snoc (l : List Row) (r : Row) : nsum (l ++ [r]) = nsum l + if nonS r = true then r.2.2 else 0 := by
  unfold nsum
  rw [rsum_append, rsum_cons]
  by_cases h2 : nonS r = true <;> simp [h2, rsum]
/-- so far -/
structure Mvd (o : List (List Nat)) (a : List Nat) (ws : List (List Nat)) (N : Nat) (O I : Nat → Nat) : Prop where
  rows : RowsOk o a ws
  len : ws.length = 1 + N
  mv : moved a (lastOf ws) ≤ N
  bal : ∀ p, p < o.length → (lastOf ws).getD p 0 + O p = a.getD p 0 + I p
theorem lastOf_snoc (ws : List (List Nat)) (w : List Nat) : lastOf (ws ++ [w]) = w := by
  unfold lastOf
  rw [List.getLastD_eq_getLast?, List.getLast?_append]
  rfl
section
variable {o : List (List Nat)} {a b : List Nat} {ws : List (List Nat)} {N : Nat} {O I O' I' : Nat → Nat} {s g : Nat}
theorem Mvd.to {N' : Nat} (h : Mvd o a ws N O I) (e : N = N') (h1 : ∀ p, O p = O' p) (h2 : ∀ p, I p = I' p) : Mvd o a ws N' O' I' := by
  subst e
  exact ⟨h.rows, h.len, h.mv, fun p hp => by rw [← h1, ← h2]; exact h.bal p hp⟩
theorem Mvd.start (ho : IsOrd o) (ha : IsW o.length a) : Mvd o a [a] 0 (fun _ => 0) (fun _ => 0) :=
  ⟨⟨ho, by simp, rfl, fun w hw => by rw [List.mem_singleton.mp hw]; exact ⟨ha, rfl, noPaper_refl⟩⟩, rfl, by show moved a a ≤ 0; rw [moved_self]; exact Nat.le_refl _, fun p _ => rfl⟩
theorem Mvd.wl (h : Mvd o a ws N O I) : IsW o.length (lastOf ws) := (h.rows.all _ (lastOf_mem h.rows.ne)).1
theorem Mvd.al (h : Mvd o a ws N O I) : IsW o.length a := (h.rows.all a (List.mem_of_getElem? h.rows.hd)).1
theorem Mvd.step (h : Mvd o a ws N O I) (hs : s < o.length) (hg : g ∈ above o s) (h0 : 0 < (lastOf ws).getD s 0) : Mvd o a (ws ++ [stepN (lastOf ws) s g]) (N + 1) (fun p => O p + if p = s then 1 else 0) (fun p => I p + if p = g then 1 else 0) := by
  have hne : s ≠ g := fun e => h.rows.ord.irr s _ (h.rows.ord.row hs) (e ▸ hg)
  have wl := h.wl
  refine ⟨h.rows.push hs hg h0, by rw [List.length_append, h.len]; show 1 + N + 1 = _; omega, ?_, fun p hp => ?_⟩
  · rw [lastOf_snoc]
    have i2 := moved_tri (show a.length = (lastOf ws).length by rw [h.al.1, wl.1]) (show (lastOf ws).length = (stepN (lastOf ws) s g).length by rw [stepN_len])
    have i3 := moved_step (v := lastOf ws) (p := s) (g := g) (by rw [wl.1]; exact hs)
    have := h.mv
    omega
  · have e := h.bal p hp
    rw [lastOf_snoc, stepN_get (by rw [wl.1]; exact hp)]
    show _ + (O p + _) = _ + (I p + _)
    by_cases e1 : p = s
    · subst e1
      rw [if_pos rfl, if_neg hne]
      omega
    · rw [if_neg e1]
      omega
theorem Mvd.new (h : Mvd o a ws N O I) (hs : s < o.length) (hg : g ∈ above o s) (h0 : 0 < (lastOf ws).getD s 0) : stepN (lastOf ws) s g ≠ a := fun e => by
  have hne : s ≠ g := fun e => h.rows.ord.irr s _ (h.rows.ord.row hs) (e ▸ hg)
  have wl := h.wl
  have n1 := noPaper_step h.rows.ord wl.1 hs hg h0
  rw [e] at n1
  have n2 := (h.rows.all _ (lastOf_mem h.rows.ne)).2.2
  have eq := noPaper_antisymm h.rows.ord h.al.1 wl.1 n2 n1
  have q := stepN_get (v := lastOf ws) (s := s) (g := g) (i := s) (by rw [wl.1]; exact hs)
  rw [e, if_pos rfl, if_neg hne, eq] at q
  omega
theorem step_ne {v : List Nat} (hs : s < v.length) (hne : s ≠ g) (h0 : 0 < v.getD s 0) : stepN v s g ≠ v := fun e => by
  have q := stepN_get (v := v) (s := s) (g := g) (i := s) hs
  rw [e, if_pos rfl, if_neg hne] at q
  omega
theorem plan_room {rows : List Row} {j : Nat} {r : Row} (P : IsPl o a b rows) (hj : rows[j]? = some r) (hn : nonS r = true) : outS (rows.take j) r.1 + r.2.2 ≤ a.getD r.1 0 := by
  have hr := P.ok r (List.mem_of_getElem? hj)
  have e := P.frm r.1 hr.1
  rw [← out_self] at e
  have e2 : outS rows r.1 = outS (rows.take (j + 1)) r.1 + outS (rows.drop (j + 1)) r.1 := by
    unfold outS
    rw [← rsum_append, List.take_append_drop]
  rw [take_get hj, out_snoc, if_pos ⟨rfl, hn⟩] at e2
  omega
theorem plan_last {rows : List Row} (P : IsPl o a b rows) (hb : b.length = o.length) (h : Mvd o a ws N (outS rows) (inS rows)) : lastOf ws = b := by
  have wl := h.wl.1
  refine List.ext_getElem (by rw [wl, hb]) fun p h1 h2 => ?_
  have hp : p < o.length := by rw [← wl]; exact h1
  have e1 := h.bal p hp
  have e2 := P.frm p hp
  have e3 := P.to p hp
  rw [← out_self] at e2
  rw [← in_self] at e3
  have g1 : (lastOf ws).getD p 0 = (lastOf ws)[p] := by rw [List.getD_eq_getElem?_getD, List.getElem?_eq_getElem h1]; rfl
  have g2 : b.getD p 0 = b[p] := by rw [List.getD_eq_getElem?_getD, List.getElem?_eq_getElem h2]; rfl
  omega
theorem nsum_nine {rows : List Row} (P : IsPl o a b rows) (ha : IsW o.length a) (j : Nat) : nsum (rows.take j) ≤ 9 := by
  have h1 := rsum_le nonS (rows.take j)
  have h2 : ((rows.take j).map fun r => r.2.2).sum ≤ (rows.map fun r => r.2.2).sum := by
    conv => rhs; rw [← List.take_append_drop j rows, List.map_append, List.sum_append]
    omega
  have h3 := plan_amt P ha.1
  have := ha.2
  unfold nsum
  omega
theorem take_rows (h : RowsOk o a ws) {k : Nat} (hk : 0 < k) : RowsOk o a (ws.take k) := by
  refine ⟨h.ord, fun z => ?_, ?_, fun w hw => h.all w (List.mem_of_mem_take hw)⟩
  · have := congrArg List.length z
    have hl := List.length_pos_iff.mpr h.ne
    rw [List.length_take, List.length_nil] at this
    omega
  · rw [List.getElem?_take, if_pos hk]
    exact h.hd
theorem take_drop1 {α : Type} (l : List α) (k : Nat) (hk : k ≤ l.length) : (l.take k).dropLast = l.take (k - 1) := by
  rw [List.dropLast_eq_take, List.length_take, List.take_take]
  congr 1
  omega
end
end UP

/-! NF: an exception with its own __init__ and a field. -/
namespace UP
open PySem PySem.Spec L2
/-- the base class: what its __init__ is -/
structure BaseI (K : PySem.W.Frag) (C : Addr) : Prop where
  sp : PySem.W.specialIn K (.ref C) "__getattribute__" = some (some (.builtin "type.__getattribute__"))
  rd : PySem.W.readsIn K C (.type "type") = true
  fd : PySem.W.findCls K (.ref C) (.type "type") "__init__" = some (.val (.builtin "ValueError.__init__"))
section
variable {X : Cx} {C : Addr} {x : Str} {e : Expr} {es : List Expr} {ta : TA} {p1 p2 pos : Pos}
theorem pe_clsinit {pl : Sem Bool} (T : BaseI X.K C) (hg : Gl X x) (hm : X.mg x = some (.ref C)) (ha : PA X (e :: es) ta) (hdb : (x == ("__debug__" : Str)) = false := by decide)
    (hc : eval (.Call (.Attribute (.Name x p1) "__init__" p2) (e :: es) [] pos) X.env = (eval (.Name x p1) X.env >>= fun ov => standAt p2.atName >>= fun _ => holding [ov] (getMethod ov "__init__" pl) >>= fun r => callWith pos r.1 r.2 (backTo pos (starEach (e :: es) X.env)) (backToKw pos (keywordEach [] X.env))) := by rfl)
    (he : starEach (e :: es) X.env = (false, eval e X.env) :: starEach es X.env := by rfl) (hpl : (backTo pos (starEach es X.env)).any (·.1) = false := by rfl) :
    PE X (.Call (.Attribute (.Name x p1) "__init__" p2) (e :: es) [] pos) (tVeI X.K ta) := by
  refine ⟨fun pins s σ H Q I h => ?_⟩
  refine PySem.W.methodCall_KW (pl := pl) (ld_glob I hg hm ?_ hdb) hc
  refine PySem.W.method_cls I.kIn T.sp (PySem.W.cls_value I.kIn T.rd T.fd (by decide +kernel) ?_)
  show wpAny _ _ (callWith pos (Value.builtin "ValueError.__init__") [] (backTo pos (starEach (e :: es) X.env)) []) _ _ _
  refine PyProof.Rows.callWith_method1 (thn (ha.run pos pins _ σ H _ (I.tok _) h) fun us s1 ⟨vs, H1, I1, r1, a, C, ws, ev, hl, T, ea, q⟩ => ?_) he hpl
  subst ev
  cases r1 with
  | @cons _ u0 _ ur ra rw' =>
    obtain rfl : u0 = Value.ref a := ra
    have hlen : ur.length ≤ sizeLine := by
      rw [← Paired.length rw', sizeLine_eq]
      omega
    exact oinit_ok T I1 ea hlen fun s' J => ⟨.non, H1, J, rfl, q⟩
end
/-- its __init__(self, line) -/
def spPE (K : PySem.W.Frag) (C : Addr) : Sp := fun vs H Q _ => ∃ a v, vs = [.ref a, v] ∧ H a = some (exo a C none) ∧ ∀ dx, H dx = none → dx ≠ a → Q .non (upd (upd H dx (exd dx [("line", v)])) a (exo a C (some dx)))
/-- how it is read -/
structure PeRead (K : PySem.W.Frag) (mg : Str → Option Value) (C : Addr) : Prop where
  xf : XfC K C
  no : PySem.W.findIn K (.ref C) "line" = some none
  gl : mg "ParseError" = some (.ref C)
structure PeAt (P : Program) (w : World) (K : PySem.W.Frag) (mg : Str → Option Value) (base : Heap) (C : Addr) : Prop where
  ex : ∃ f fd, OexC K C ∧ PySem.W.findIn K (.ref C) "__init__" = some (some (.ref f)) ∧ PySem.W.typeIn K (.ref f) = some (.type "function") ∧ mg "ParseError" = some (.ref C) ∧ Binds K fd ["self", "line"] [] ∧ FnOk P w K mg base (L2.CX P w) 1 f fd ["self", "line"] (spPE K C)
/-- where it stands -/
structure PeInit (K : PySem.W.Frag) (mg : Str → Option Value) (C : Addr) (st : Stmt) : Prop where
  ox : OexC K C
  no : PySem.W.findIn K (.ref C) "line" = some none
  gl : mg "ParseError" = some (.ref C)
  ex : ∃ f fd, Fun K "__init__" "ParseError.__init__" st f fd ∧ PySem.W.findIn K (.ref C) "__init__" = some (some (.ref f)) ∧ PySem.W.typeIn K (.ref f) = some (.type "function")
section
variable {P : Program} {w : World} {K : PySem.W.Frag} {mg : Str → Option Value} {base : Heap}
theorem pe_of {st : Stmt} {C : Addr} (D : PeInit K mg C st) (S : FnScope ["self", "line"] ["self", "line"] (defScope st))
    (hb : ∀ (kV doc pm : Value) (an : Option Addr) (cdv ct : Value) (us : List Value), us.length = (["self", "line"] : List Str).length → bindArgs (PySem.W.fnOf "__init__" "ParseError.__init__" (defArgs st) (defBody st) (defScope st) .none kV doc pm an cdv ct) ⟨us, []⟩ = pure ((["self", "line"] : List Str).zip us))
    (body : ∀ (f : Addr) (cdv : Value) (A : Around) (outer : List Env) (s : Shared) (H : Hp) (E : XK), ∃ ts, PSs (cxD P w K mg base ["self", "line"] "ParseError.__init__" st f cdv A outer s H E) (defBody st) ts ∧
      ∀ D σ H a v, σ = [some (.ref a), some v] → H a = some (exo a C none) → (∀ dx, H dx = none → dx ≠ a → D.nx σ (upd (upd H dx (exd dx [("line", v)])) a (exo a C (some dx)))) → ts D σ H) : PeAt P w K mg base C := by
  obtain ⟨f, fd, F, i1, i2⟩ := D.ex
  refine ⟨f, fd, D.ox, i1, i2, D.gl, F.binds hb, F.okX S (fun vs H Q E ⟨a, v, e, _⟩ => by rw [e]; rfl) fun cdv A outer s H vs Q E hr ⟨a, v, e, ha, q⟩ => ?_⟩
  subst e
  obtain ⟨ts, h1, h2⟩ := body f cdv A outer s H E
  exact ⟨ts, h1, h2 _ _ H a v rfl ha fun dx n1 n2 => q dx n1 n2⟩
end
section
variable {X : Cx} {B : Bs} {ρ : DEnv} {e : Expr} {pos p pos' : Pos} {C : Addr} {E : DE} {d : PyData}
/-- raise ParseError(e) -/
theorem sd_raiseL (hc : X.calm = true) (tk : TakesD X B E.ex) (F : PeAt X.prog X.w X.K X.mg X.base C) (hr : Room 2 X.A) (he : EV X B ρ e d) (h : E.ex ρ (.ref C) (some d)) (hg : Gl X "ParseError" := by rfl) (hs : starEach [e] X.env = (false, eval e X.env) :: starEach [] X.env := by rfl) (hpl : (backTo pos (starEach [] X.env)).any (·.1) = false := by rfl) :
    SD X B ρ (.Raise (some (.Call (.Name "ParseError" p) [e] [] pos)) none pos') E := by
  obtain ⟨f, fd, T, i1, i2, gl, hb, F1⟩ := F.ex
  refine PS.imp (ps_raise hc tk (pmk_oex (CX := L2.CX X.prog X.w) (dvs := []) T i1 i2 F1 hr hb .nil passL hg gl (pa_cons he pa_nil hs) (by decide) hs hpl)) fun D σ H ⟨G, en, _⟩ => ⟨G, en, fun v H1 G1 g1 p1 => ⟨(show 1 ≤ 1000 by decide), fun a ha => ?_⟩⟩
  refine ⟨a, v, rfl, upd_same, fun dx n1 n2 => ⟨rfl, dx, [("line", v)], upd_same, ?_, ?_, ?_⟩⟩
  · rw [upd_ne n2, upd_same]
  · rw [upd_ne n2] at n1; exact n1
  · have n1' : H1 dx = none := by rw [upd_ne n2] at n1; exact n1
    have eH : upd (L2.del (upd (upd (upd H1 a (exo a C none)) dx (exd dx [("line", v)])) a (exo a C (some dx))) a) dx (.xd [("line", v)]) = upd H1 dx (.xd [("line", v)]) := by
      funext b
      by_cases hb : b = dx
      · rw [hb, upd_same, upd_same]
      · rw [upd_ne hb, upd_ne hb]
        by_cases hba : b = a
        · rw [hba, del_same, ha]
        · rw [del_ne hba, upd_ne hba, upd_ne hb, upd_ne hba]
    rw [eH]
    have g2 : Grow G1 H1 (upd G1 dx (.xd [("line", v)])) (upd H1 dx (.xd [("line", v)])) := Grow.new g1.sub _ n1'
    exact ⟨_, ρ, some d, en.grow (g1.trans g2), ⟨dx, v, rfl, upd_same, Dq.mono g2.gg _ p1⟩, h⟩
end
/-! ### the caught error -/
/-- isinstance(e, c) where e has a dict -/
theorem call_isE2 {X : Cx} {a D dd : Addr} {oe : Obj} {pn : List (Addr × Obj)} (C : ExcC X.K D) (hz : Zc (.ref D) (some dd) oe) (hf : ∃ vs, oe.data = .fields vs) :
    CallR (X.suite a ((a, oe) :: pn)) (.builtin "isinstance") (fun xs H Q => ∃ (c : V) (cv : Value) (b : Bool) (fs : List (Str × V)), xs = [.ref a, c] ∧ (∀ u, RelV c u → u = cv) ∧ PySem.W.kitOne X.K (.ref D) cv = some b ∧ H dd = some (.xd fs) ∧ Q (.bl b) H) := by
  intro pins s σ H xs us Q I r h
  obtain ⟨c, cv, b, fs, rfl, hcv, e, ea, q⟩ := h
  cases r with
  | cons rx rr =>
    cases rr with
    | cons rt rr =>
      cases rr
      cases rx
      have ec := hcv _ rt
      subst ec
      obtain ⟨hget, _⟩ := I.pin (a, oe) (List.mem_append.mpr (.inl List.mem_cons_self))
      obtain ⟨vs, hv⟩ := hf
      have hx : ObjOk X.prog X.w H s.heap dd (.xd fs) := I.hok dd _ ea
      obtain ⟨mA, hns, hr⟩ := hx
      obtain ⟨od, ho, hl⟩ := lookIn_ns hns
      have J : PySem.W.InstAt s.heap a oe D (some od) := ⟨hget, hz.1, by unfold PySem.W.notCls; rw [hv] <;> rfl, by rw [hz.2]; exact ho⟩
      have hcl : (PySem.W.clsIn X.K D).isSome = true := by obtain ⟨cd, hc, _⟩ := PySem.W.any_some C.hd; rw [hc]; rfl
      exact PySem.W.kia_one (PySem.W.kitx_exc hcl C.hg C.hk C.hs C.ha C.hn C.ht C.hm) I.kIn J e (fun z => nomatch z) fun tk => ⟨.bl b, H, I.kept (t' := tk) fun _ _ z => z, rfl, q⟩
section
variable {X : Cx} {B : Bs} {ρ : DEnv} {q : Addr} {ob : Obj} {pn : List (Addr × Obj)} {C D dd : Addr} {i : Nat} {x n : Str} {p p1 p2 pos : Pos} {ln : PyData}
theorem ev_isL (i : Nat) {b : Bool} (y : ExcC X.K C) (hz : Zc (.ref C) (some dd) ob) (hf : ∃ fs, ob.data = .fields fs) (hm : X.mg "isinstance" = none) (Fg : X.mg x = some (.ref D)) (ia : IsA X.K C D b) (hρ : ρ[i]? = some (.res (excR X.K q (some dd) (some ln))) := by rfl) (hN : X.N[i]? = some n := by rfl)
    (hv : Vis X.env.scope n := by first | exact Or.inl rfl | exact Or.inr (Or.inl rfl) | exact Or.inr (Or.inr rfl)) (hg : Gl X "isinstance" := by rfl) (hg2 : Gl X x := by rfl) (hd : (n == ("__debug__" : Str)) = false := by decide) (hcd : (n == ("__classdict__" : Str)) = false := by decide) (hdb : (x == ("__debug__" : Str)) = false := by decide)
    (he : starEach [.Name n p1, .Name x p2] X.env = (false, eval (.Name n p1) X.env) :: starEach [.Name x p2] X.env := by rfl) (he2 : starEach [.Name x p2] X.env = [(false, eval (.Name x p2) X.env)] := by rfl) (hpl : (backTo pos (starEach [.Name x p2] X.env)).any (·.1) = false := by rfl) :
    EV (X.suite q ((q, ob) :: pn)) B ρ (.Call (.Name "isinstance" p) [.Name n p1, .Name x p2] [] pos) (.bool b) := by
  have h1 : EVP (X.suite q ((q, ob) :: pn)) B ρ (.Name n p1) (fun G H v => v = .ref q ∧ XAt X.K G H (some dd) (some ln)) := ev_exc (X := X.suite q ((q, ob) :: pn)) i hρ hN hv hd hcd
  have h2 : EVP (X.suite q ((q, ob) :: pn)) B ρ (.Name x p2) (fun _ _ v => v = .ref D) := ev_cls (X := X.suite q ((q, ob) :: pn)) Fg hg2 hdb
  refine PE.imp (pe_callB (call_isE2 y hz hf) hg hm bt_isi (pa_cons h1 (pa_cons h2 pa_nil he2) he) (by decide) (by decide) he hpl) fun σ H Q ⟨G, en, k⟩ => ⟨G, en, fun x H1 G1 g1 p1 => ⟨G1, en.grow g1, fun y H2 G2 g2 p2 => ?_⟩⟩
  obtain ⟨rfl, d', v, e, hd', dv⟩ := p1
  cases e
  subst p2
  exact ⟨.ref D, .ref D, b, _, rfl, fun u r => by cases r; rfl, ia.i, g2.sub _ _ (g2.gg _ _ hd'), k _ H2 G2 (g1.trans g2) (.bl _)⟩
theorem ev_isLB (i : Nat) {b : Bool} {T : String} (y : ExcC X.K C) (hz : Zc (.ref C) (some dd) ob) (hf : ∃ fs, ob.data = .fields fs) (hm : X.mg "isinstance" = none) (hx : X.mg x = none) (hb : bootBuiltins x = some (.type T)) (ia : IsB X.K C T b) (hρ : ρ[i]? = some (.res (excR X.K q (some dd) (some ln))) := by rfl) (hN : X.N[i]? = some n := by rfl)
    (hv : Vis X.env.scope n := by first | exact Or.inl rfl | exact Or.inr (Or.inl rfl) | exact Or.inr (Or.inr rfl)) (hg : Gl X "isinstance" := by rfl) (hg2 : Gl X x := by rfl) (hd : (n == ("__debug__" : Str)) = false := by decide) (hcd : (n == ("__classdict__" : Str)) = false := by decide) (hn : x ≠ "__name__" := by decide) (hdb : (x == ("__debug__" : Str)) = false := by decide)
    (he : starEach [.Name n p1, .Name x p2] X.env = (false, eval (.Name n p1) X.env) :: starEach [.Name x p2] X.env := by rfl) (he2 : starEach [.Name x p2] X.env = [(false, eval (.Name x p2) X.env)] := by rfl) (hpl : (backTo pos (starEach [.Name x p2] X.env)).any (·.1) = false := by rfl) :
    EV (X.suite q ((q, ob) :: pn)) B ρ (.Call (.Name "isinstance" p) [.Name n p1, .Name x p2] [] pos) (.bool b) := by
  have h1 : EVP (X.suite q ((q, ob) :: pn)) B ρ (.Name n p1) (fun G H v => v = .ref q ∧ XAt X.K G H (some dd) (some ln)) := ev_exc (X := X.suite q ((q, ob) :: pn)) i hρ hN hv hd hcd
  have h2 : EVP (X.suite q ((q, ob) :: pn)) B ρ (.Name x p2) (fun _ _ v => v = .ty T) := ev_ty (X := X.suite q ((q, ob) :: pn)) hx hb hg2 hn hdb
  refine PE.imp (pe_callB (call_isE2 y hz hf) hg hm bt_isi (pa_cons h1 (pa_cons h2 pa_nil he2) he) (by decide) (by decide) he hpl) fun σ H Q ⟨G, en, k⟩ => ⟨G, en, fun x H1 G1 g1 p1 => ⟨G1, en.grow g1, fun y H2 G2 g2 p2 => ?_⟩⟩
  obtain ⟨rfl, d', v, e, hd', dv⟩ := p1
  cases e
  subst p2
  exact ⟨.ty T, .type T, b, _, rfl, fun u r => by cases r; rfl, ia.i, g2.sub _ _ (g2.gg _ _ hd'), k _ H2 G2 (g1.trans g2) (.bl _)⟩
/-- an error with a line has a dict -/
theorem sd_dict {sts : List Stmt} {E : DE} {dd : Option Addr} (i : Nat) (hρ : ρ[i]? = some (.res (excR X.K q dd (some ln)))) (h : ∀ d, dd = some d → SDs X B ρ sts E) : SDs X B ρ sts E := ⟨fun pins s σ H D I t => by
  obtain ⟨G, en, r⟩ := id t
  obtain ⟨v, nf, e, ⟨e1, e2, d, v', hd, _⟩, _⟩ := en.getRes hρ
  exact (h d hd).run pins s σ H D I t⟩
/-- e.line -/
theorem ev_line (i : Nat) (T : XfC X.K C) (hno : PySem.W.findIn X.K (.ref C) "line" = some none) (hz : Zc (.ref C) (some dd) ob) (hf : ∃ fs, ob.data = .fields fs) (hρ : ρ[i]? = some (.res (excR X.K q (some dd) (some ln))) := by rfl) (hN : X.N[i]? = some n := by rfl)
    (hv : Vis X.env.scope n := by first | exact Or.inl rfl | exact Or.inr (Or.inl rfl) | exact Or.inr (Or.inr rfl)) (hd : (n == ("__debug__" : Str)) = false := by decide) (hcd : (n == ("__classdict__" : Str)) = false := by decide) (hb : attributeBase (.Name n p) "line" X.env (eval (.Name n p) X.env) = eval (.Name n p) X.env := by rfl) :
    EV (X.suite q ((q, ob) :: pn)) B ρ (.Attribute (.Name n p) "line" pos) ln := by
  have h1 : EVP (X.suite q ((q, ob) :: pn)) B ρ (.Name n p) (fun G H v => v = .ref q ∧ XAt X.K G H (some dd) (some ln)) := ev_exc (X := X.suite q ((q, ob) :: pn)) i hρ hN hv hd hcd
  refine PE.imp (pe_xf T hno hz hf h1 hb) fun σ H Q ⟨G, en, k⟩ => ⟨G, en, fun x H1 G1 g1 p1 => ?_⟩
  obtain ⟨rfl, d', v, e, hd', dv⟩ := p1
  cases e
  exact ⟨rfl, rfl, dd, [("line", v)], v, rfl, g1.sub _ _ hd', rfl, k v H1 G1 g1 dv⟩
/-- isinstance(e, c) of an error without a dict, c by its name alone -/
theorem ev_isEg (i : Nat) {ln : Option PyData} {b : Bool} (y : ExcC X.K C) (hz : Zc (.ref C) none ob) (hf : ∃ fs, ob.data = .fields fs) (hm : X.mg "isinstance" = none) (Fg : X.mg x = some (.ref D)) (ia : IsA X.K C D b) (hρ : ρ[i]? = some (.res (excR X.K q none ln)) := by rfl) (hN : X.N[i]? = some n := by rfl)
    (hv : Vis X.env.scope n := by first | exact Or.inl rfl | exact Or.inr (Or.inl rfl) | exact Or.inr (Or.inr rfl)) (hg : Gl X "isinstance" := by rfl) (hg2 : Gl X x := by rfl) (hd : (n == ("__debug__" : Str)) = false := by decide) (hcd : (n == ("__classdict__" : Str)) = false := by decide) (hdb : (x == ("__debug__" : Str)) = false := by decide)
    (he : starEach [.Name n p1, .Name x p2] X.env = (false, eval (.Name n p1) X.env) :: starEach [.Name x p2] X.env := by rfl) (he2 : starEach [.Name x p2] X.env = [(false, eval (.Name x p2) X.env)] := by rfl) (hpl : (backTo pos (starEach [.Name x p2] X.env)).any (·.1) = false := by rfl) :
    EV (X.suite q ((q, ob) :: pn)) B ρ (.Call (.Name "isinstance" p) [.Name n p1, .Name x p2] [] pos) (.bool b) := by
  have h1 : EVP (X.suite q ((q, ob) :: pn)) B ρ (.Name n p1) (fun G H v => v = .ref q ∧ XAt X.K G H none ln) := ev_exc (X := X.suite q ((q, ob) :: pn)) i hρ hN hv hd hcd
  have h2 : EVP (X.suite q ((q, ob) :: pn)) B ρ (.Name x p2) (fun _ _ v => v = .ref D) := ev_cls (X := X.suite q ((q, ob) :: pn)) Fg hg2 hdb
  refine PE.imp (pe_callB (call_isE y hz hf) hg hm bt_isi (pa_cons h1 (pa_cons h2 pa_nil he2) he) (by decide) (by decide) he hpl) fun σ H Q ⟨G, en, k⟩ => ⟨G, en, fun x H1 G1 g1 p1 => ⟨G1, en.grow g1, fun y H2 G2 g2 p2 => ?_⟩⟩
  obtain ⟨rfl, _⟩ := p1
  subst p2
  exact ⟨.ref D, .ref D, b, rfl, fun u r => by cases r; rfl, ia.i, k _ H2 G2 (g1.trans g2) (.bl _)⟩
end
end UP

/-! NG: texts: split, in, index, slices; the tokens of a text. -/
namespace UP
open PySem PySem.Spec L2
abbrev sp1 : Str := ⟨#[32]⟩
theorem zz {n : Nat} (h : n ≤ 2000) : n ≤ sizeLine := Nat.le_trans h (by decide)
theorem sp_eq : (" " : Str) = sp1 := by decide +kernel
section
variable {X : Cx} {B : Bs} {ρ : DEnv} {e o a b : Expr} {pos p apos p2 : Pos}
theorem dq_strs {K : PySem.W.Frag} {G : Hp} : ∀ ys : List Str, DqAll K G (ys.map V.str) (ys.map PyData.str)
  | [] => .nil
  | y :: ys => .cons (.str y) (dq_strs ys)
theorem split_len (z : Str) : (Txt.split z sp1).length ≤ z.length + 1 := by
  have h := StrLaws.join_split z sp1
  have key : ∀ T : List Str, T.length ≤ (Str.join sp1 T).length + 1 := by
    intro T
    induction T with
    | nil => exact Nat.zero_le _
    | cons x r ih =>
      cases r with
      | nil => show 1 ≤ _; omega
      | cons y r =>
        show (y :: r).length + 1 ≤ (x ++ sp1 ++ Str.join sp1 (y :: r)).length + 1
        rw [Str.length_append, Str.length_append]
        have : sp1.length = 1 := rfl
        omega
  have := key (Txt.split z sp1)
  rw [h] at this
  exact this
/-- z.split(" ") -/
theorem ev_split {z : Str} (ho : EV X B ρ o (.str z)) (he : EV X B ρ e (.str sp1)) (hz : z.length ≤ 1000) (hs : starEach [e] X.env = [(false, eval e X.env)] := by rfl) (hbase : attributeBase o "split" X.env (eval o X.env) = eval o X.env := by rfl) (hline : (apos.endLine == pos.line) = true := by rfl) :
    EVf X B ρ (.Call (.Attribute o "split" apos) [e] [] pos) ((Txt.split z sp1).map PyData.str) := by
  refine PE.imp (pe_split ho he hs hbase hline) fun σ H Q ⟨G, en, k⟩ => ⟨G, en, fun v H1 G1 g1 p1 => ?_⟩
  cases p1
  refine ⟨⟨z, rfl⟩, G1, en.grow g1, fun u H2 G2 g2 p2 => ?_⟩
  cases p2
  have g := g1.trans g2
  have hl := split_len z
  exact ⟨z, sp1, rfl, rfl, rfl, zz (by omega), fun q hq => k q _ _ G2 (g.trans (Grow.own g2.sub _ hq)) (g.hh.free hq) (g2.sub.free hq) upd_same (by rw [List.length_map]; exact zz (by omega)) (dq_strs _)⟩
/-- sign not in z -/
theorem tv_notinC {c : Nat} {z : Str} (ha : EV X B ρ a (.str ⟨#[c]⟩)) (hb : EV X B ρ b (.str z)) (hm : behindInMarks .NotIn b = false := by rfl) : TV X B ρ (.Compare a [.NotIn] [b] pos) (!decide (c ∈ z.cps.toList)) :=
  tv_cmpR op_notIn_sign ha hb hm stb_d fun x y G H Q s p1 p2 k => by
    cases p1; cases p2
    exact ⟨c, z, rfl, rfl, k _ H G (Grow.refl s) (.bl _)⟩
/-- z.index(sub) -/
theorem ev_index {z y : Str} {i : Nat} {rest : List Nat} (ho : EV X B ρ o (.str z)) (he : EV X B ρ e (.str y)) (hi : Builtin.Str.occurrences z y 0 z.length 1 = i :: rest) (hs : starEach [e] X.env = [(false, eval e X.env)] := by rfl) (hbase : attributeBase o "index" X.env (eval o X.env) = eval o X.env := by rfl) (hline : (apos.endLine == pos.line) = true := by rfl) :
    EV X B ρ (.Call (.Attribute o "index" apos) [e] [] pos) (encN i) := by
  refine PE.imp (pe_m1 F.slot_str_index F.type_str_index mt_sindex ho he hs hbase hline) fun σ H Q ⟨G, en, k⟩ => ⟨G, en, fun v H1 G1 g1 p1 => ?_⟩
  cases p1
  refine ⟨⟨z, rfl⟩, G1, en.grow g1, fun u H2 G2 g2 p2 => ?_⟩
  cases p2
  exact ⟨z, y, i, rest, rfl, rfl, hi, k _ H2 G2 (g1.trans g2) (.int _)⟩
/-- z + y -/
theorem ev_catS {z y : Str} (ha : EV X B ρ a (.str z)) (hb : EV X B ρ b (.str y)) (hz : z.length + y.length ≤ 2000) : EV X B ρ (.BinOp a .Add b pos) (.str (z ++ y)) :=
  ev_op op_add_str ha hb stb_d fun x y' G H Q s h1 h2 k => by
    cases h1; cases h2
    exact ⟨z, y, rfl, rfl, zz hz, k _ H G (Grow.refl s) (.str _)⟩
/-- z[i:j] -/
theorem ev_slS {z : Str} {lo hi : Option Expr} {i j : Option Int} (ha : EV X B ρ a (.str z)) (hl : OV X B ρ lo i) (hh : OV X B ρ hi j) (hz : z.length ≤ 2000) : EV X B ρ (.Subscript a (.Slice lo hi none p2) pos) (.str (Txt.slice z i j)) := by
  refine PE.imp (pe_slice C8.sl_txt ha hl hh) fun σ H Q ⟨G, en, k⟩ => ⟨G, en, fun x H1 G1 g1 p1 => ⟨G1, en.grow g1, fun H2 G2 g2 => ⟨G2, en.grow (g1.trans g2), fun H3 G3 g3 => ?_⟩⟩⟩
  cases p1
  exact ⟨z, rfl, zz hz, k _ H3 G3 ((g1.trans g2).trans g3) (.str _)⟩
end
/-! ### tokens -/
def jl : List (List Nat) → List Nat
  | [] => []
  | [x] => x
  | x :: y :: r => x ++ 32 :: jl (y :: r)
theorem join_cps : ∀ T : List Str, (Str.join sp1 T).cps.toList = jl (T.map fun p => p.cps.toList)
  | [] => rfl
  | [x] => rfl
  | x :: y :: r => by
    have ih := join_cps (y :: r)
    show ((x.cps ++ #[32]) ++ (Str.join sp1 (y :: r)).cps).toList = _
    rw [Array.toList_append, Array.toList_append, ih]
    show (x.cps.toList ++ [32]) ++ _ = x.cps.toList ++ 32 :: _
    rw [List.append_assoc]
    rfl
theorem cut_inj : ∀ {x x' r r' : List Nat}, 32 ∉ x → 32 ∉ x' → (r = [] ∨ ∃ t, r = 32 :: t) → (r' = [] ∨ ∃ t, r' = 32 :: t) → x ++ r = x' ++ r' → x = x' ∧ r = r'
  | [], [], r, r', _, _, _, _, e => ⟨rfl, e⟩
  | [], c :: x', r, r', _, h2, hr, _, e => by
    have e : r = c :: (x' ++ r') := e
    rcases hr with rfl | ⟨t, rfl⟩
    · cases e
    · exact absurd (by rw [(List.cons.inj e).1]; exact List.mem_cons_self) h2
  | c :: x, [], r, r', h1, _, _, hr', e => by
    have e : c :: (x ++ r) = r' := e
    rcases hr' with rfl | ⟨t, rfl⟩
    · cases e
    · exact absurd (by rw [← (List.cons.inj e).1]; exact List.mem_cons_self) h1
  | c :: x, c' :: x', r, r', h1, h2, hr, hr', e => by
    obtain ⟨e1, e2⟩ := List.cons.inj e
    obtain ⟨q1, q2⟩ := cut_inj (fun z => h1 (List.mem_cons_of_mem _ z)) (fun z => h2 (List.mem_cons_of_mem _ z)) hr hr' e2
    exact ⟨by rw [e1, q1], q2⟩
def tailL : List (List Nat) → List Nat
  | [] => []
  | y :: r => 32 :: jl (y :: r)
theorem jl_cons (x : List Nat) (r : List (List Nat)) : jl (x :: r) = x ++ tailL r := by
  cases r with
  | nil => show x = x ++ []; rw [List.append_nil]
  | cons y r => rfl
theorem tail_form (r : List (List Nat)) : tailL r = [] ∨ ∃ t, tailL r = 32 :: t := by
  cases r with
  | nil => exact .inl rfl
  | cons y r => exact .inr ⟨_, rfl⟩
theorem jl_inj : ∀ {T T' : List (List Nat)}, T ≠ [] → T' ≠ [] → (∀ p ∈ T, 32 ∉ p) → (∀ p ∈ T', 32 ∉ p) → jl T = jl T' → T = T'
  | [], _, h, _, _, _, _ => absurd rfl h
  | _ :: _, [], _, h, _, _, _ => absurd rfl h
  | x :: r, x' :: r', _, _, h1, h2, e => by
    rw [jl_cons, jl_cons] at e
    obtain ⟨q1, q2⟩ := cut_inj (h1 x List.mem_cons_self) (h2 x' List.mem_cons_self) (tail_form r) (tail_form r') e
    subst q1
    cases r with
    | nil =>
      cases r' with
      | nil => rfl
      | cons y r' => cases q2
    | cons y r =>
      cases r' with
      | nil => cases q2
      | cons y' r' =>
        have := jl_inj (T := y :: r) (T' := y' :: r') (by simp) (by simp) (fun p hp => h1 p (List.mem_cons_of_mem _ hp)) (fun p hp => h2 p (List.mem_cons_of_mem _ hp)) (List.cons.inj q2).2
        rw [this]
theorem split_ne (z : Str) : Txt.split z sp1 ≠ [] := fun h => by
  unfold Txt.split at h
  split at h
  · cases h
  · split at h
    · cases h
    · have := congrArg List.length h
      rw [length_partsBetween] at this
      cases this
theorem cps_inj : ∀ {T T' : List Str}, T.map (fun p => p.cps.toList) = T'.map (fun p => p.cps.toList) → T = T'
  | [], [], _ => rfl
  | [], _ :: _, h => by cases h
  | _ :: _, [], h => by cases h
  | ⟨x⟩ :: T, ⟨y⟩ :: T', h => by
    have h := List.cons.inj h
    rw [cps_inj h.2]
    have : x = y := Array.toList_inj.mp h.1
    rw [this]
theorem split_join {T : List Str} (hne : T ≠ []) (hf : ∀ p ∈ T, 32 ∉ p.cps.toList) : Txt.split (Str.join sp1 T) sp1 = T := by
  have h1 := StrLaws.join_split (Str.join sp1 T) sp1
  have h2 := StrLaws.split_free (Str.join sp1 T) 32
  have e := congrArg (fun z : Str => z.cps.toList) h1
  rw [join_cps, join_cps] at e
  refine cps_inj (jl_inj ?_ ?_ ?_ ?_ e)
  · intro z; exact split_ne _ (List.map_eq_nil_iff.mp z)
  · intro z; exact hne (List.map_eq_nil_iff.mp z)
  · intro q hq
    obtain ⟨p, hp, rfl⟩ := List.mem_map.mp hq
    exact h2 p hp
  · intro q hq
    obtain ⟨p, hp, rfl⟩ := List.mem_map.mp hq
    exact hf p hp
theorem join_eq (ys : List Str) : Txt.join (" " : Str) ys = Str.join sp1 ys := by
  show PySem.Builtin.Str.glued _ _ = _
  rw [StrLaws.glued_eq_join, sp_eq]
/-! ### digits -/
def digS : Str := "0123456789"
def dig (t : Str) : Option Nat := (List.range 10).find? fun k => decide (t = ⟨#[48 + k]⟩)
theorem dig_some {t : Str} {k : Nat} (h : dig t = some k) : k ≤ 9 ∧ t = tokS k := by
  unfold dig at h
  have h1 := List.mem_range.mp (List.mem_of_find?_eq_some h)
  have h2 := of_decide_eq_true (List.find?_some (p := fun k => decide (t = ⟨#[48 + k]⟩)) h)
  exact ⟨by omega, by rw [tok_eq k (by omega)]; exact h2⟩
theorem dig_tok : ∀ k : Nat, k ≤ 9 → dig (tokS k) = some k
  | 0, _ | 1, _ | 2, _ | 3, _ | 4, _ | 5, _ | 6, _ | 7, _ | 8, _ | 9, _ => by decide +kernel
  | n + 10, h => by omega
theorem digS_cps : digS.cps.toList = [48, 49, 50, 51, 52, 53, 54, 55, 56, 57] := by decide +kernel
theorem dig_none_len {t : Str} (h : t.length ≠ 1) : dig t = none := by
  cases e : dig t with
  | none => rfl
  | some k =>
    obtain ⟨h1, h2⟩ := dig_some e
    rw [h2, (small_tok k h1).1] at h
    exact absurd rfl h
theorem len_one {t : Str} (h : t.length = 1) : ∃ c, t = ⟨#[c]⟩ := by
  obtain ⟨⟨l⟩⟩ := t
  match l, h with
  | [c], _ => exact ⟨c, rfl⟩
theorem dig_one (c : Nat) : (dig ⟨#[c]⟩).isNone = !decide (c ∈ digS.cps.toList) := by
  rw [digS_cps]
  by_cases h : 48 ≤ c ∧ c ≤ 57
  · have e : (⟨#[c]⟩ : Str) = tokS (c - 48) := by rw [tok_eq _ (by omega), show 48 + (c - 48) = c from by omega]
    rw [e, dig_tok _ (by omega)]
    have hm : c ∈ [48, 49, 50, 51, 52, 53, 54, 55, 56, 57] := by simp; omega
    rw [decide_eq_true hm]
    rfl
  · have hm : c ∉ [48, 49, 50, 51, 52, 53, 54, 55, 56, 57] := by simp; omega
    rw [decide_eq_false hm]
    cases e : dig ⟨#[c]⟩ with
    | none => rfl
    | some k =>
      obtain ⟨h1, h2⟩ := dig_some e
      rw [tok_eq k h1] at h2
      have h2 := Str.mk.inj h2
      have := congrArg (fun l : Array Nat => l.toList) h2
      simp at this
      omega
theorem dig_occ : ∀ k : Nat, k ≤ 9 → Builtin.Str.occurrences digS (tokS k) 0 digS.length 1 = [k]
  | 0, _ | 1, _ | 2, _ | 3, _ | 4, _ | 5, _ | 6, _ | 7, _ | 8, _ | 9, _ => by decide +kernel
  | n + 10, h => by omega
theorem tokS_inj {k j : Nat} (hk : k ≤ 9) (hj : j ≤ 9) (h : tokS k = tokS j) : k = j := by
  have e1 := dig_tok k hk
  rw [h, dig_tok j hj] at e1
  exact (Option.some.inj e1).symm
theorem toks_inj : ∀ {v u : List Nat}, (∀ x ∈ v, x ≤ 9) → (∀ x ∈ u, x ≤ 9) → v.map tokS = u.map tokS → v = u
  | [], [], _, _, _ => rfl
  | [], _ :: _, _, _, h => by cases h
  | _ :: _, [], _, _, h => by cases h
  | x :: v, y :: u, h1, h2, h => by
    have h := List.cons.inj h
    rw [tokS_inj (h1 x List.mem_cons_self) (h2 y List.mem_cons_self) h.1, toks_inj (fun z hz => h1 z (List.mem_cons_of_mem _ hz)) (fun z hz => h2 z (List.mem_cons_of_mem _ hz)) h.2]
/-! ### what is parsed -/
inductive PRes where
  | ok (v : List Nat)
  | line (l : Option Nat)
inductive PR (n : Nat) (T : List Str) : PRes → Prop
  | bad {i : Nat} {t : Str} : T[i]? = some t → dig t = none → (∀ j t', j < i → T[j]? = some t' → dig t' ≠ none) → PR n T (.line (some i))
  | ok {v : List Nat} : T = v.map tokS → (∀ x ∈ v, x ≤ 9) → IsW n v → PR n T (.ok v)
  | wr {v : List Nat} : T = v.map tokS → (∀ x ∈ v, x ≤ 9) → ¬ IsW n v → PR n T (.line none)
theorem all_or (T : List Str) : (∃ v : List Nat, T = v.map tokS ∧ ∀ x ∈ v, x ≤ 9) ∨ ∃ (i : Nat) (t : Str), T[i]? = some t ∧ dig t = none ∧ ∀ (j : Nat) (t' : Str), j < i → T[j]? = some t' → dig t' ≠ none := by
  induction T with
  | nil => exact .inl ⟨[], rfl, fun _ h => by cases h⟩
  | cons t T ih =>
    cases e : dig t with
    | none => exact .inr ⟨0, t, rfl, e, fun j t' h => by omega⟩
    | some k =>
      obtain ⟨h1, h2⟩ := dig_some e
      rcases ih with ⟨v, e1, e2⟩ | ⟨i, t', e1, e2, e3⟩
      · exact .inl ⟨k :: v, by rw [List.map_cons, ← h2, ← e1], fun x hx => (List.mem_cons.mp hx).elim (fun z => z ▸ h1) (e2 x)⟩
      · refine .inr ⟨i + 1, t', e1, e2, fun j u hj hu => ?_⟩
        cases j with
        | zero => cases hu; rw [e]; exact fun z => nomatch z
        | succ j => exact e3 j u (by omega) hu
theorem PR_total (n : Nat) (T : List Str) : ∃ r, PR n T r := by
  rcases all_or T with ⟨v, e1, e2⟩ | ⟨i, t, e1, e2, e3⟩
  · by_cases h : IsW n v
    · exact ⟨_, .ok e1 e2 h⟩
    · exact ⟨_, .wr e1 e2 h⟩
  · exact ⟨_, .bad e1 e2 e3⟩
def lineD : Option Nat → PyData
  | some i => encN i
  | none => .none
/-- a text that is parsed is its result's text -/
theorem PR_text {n : Nat} {z : Str} {v : List Nat} (h : PR n (Txt.split z sp1) (.ok v)) : IsW n v ∧ textOf v = z := by
  cases h with
  | ok e1 e2 e3 =>
    refine ⟨e3, ?_⟩
    unfold textOf
    rw [join_eq, ← e1]
    exact StrLaws.join_split z sp1
theorem tok_free {k : Nat} (h : k ≤ 9) : 32 ∉ (tokS k).cps.toList := by
  rw [tok_eq k h]
  simp
  omega
theorem split_text {v : List Nat} (hne : v ≠ []) (h : ∀ x ∈ v, x ≤ 9) : Txt.split (textOf v) sp1 = v.map tokS := by
  unfold textOf
  rw [join_eq]
  refine split_join (fun z => hne (List.map_eq_nil_iff.mp z)) fun p hp => ?_
  obtain ⟨k, hk, rfl⟩ := List.mem_map.mp hp
  exact tok_free (h k hk)
def pairO : List (List Nat) := [[1], []]
theorem pairO_ok : IsOrd pairO where
  pos := by decide
  most := by decide
  rows := by unfold Ris; decide +kernel
  irr := fun i r h => by
    match i with
    | 0 => cases h; decide
    | 1 => cases h; decide
    | i + 2 => cases h
  tr := fun i j r r' h hj h' => by
    match i with
    | 0 =>
      cases h
      have e : j = 1 := by simpa using hj
      subst e
      cases h'
      exact fun k hk => by cases hk
    | 1 => cases h; cases hj
    | i + 2 => cases h
end UP

/-! NH: a method of a mover that nobody keeps, which raises. -/
namespace UP
open PySem PySem.Spec L2
theorem grow_tmp {G H G2 H2 G' H' : Hp} {fp : List Addr} (g1 : Grow G H G2 H2) (hn : ∀ b ∈ fp, H b = none) (g : Grow G2 (sans H2 fp) G' H') : Grow G H G' H' := by
  refine ⟨g1.gg.trans g.gg, fun b o q => ?_, g.sub, fun b q r => ?_, fun t => g.tc ((g1.tc t).sans _)⟩
  · have hb : b ∉ fp := fun z => by rw [hn b z] at q; cases q
    exact g.hh b o (by rw [sans_out hb]; exact g1.hh b o q)
  · have hb : b ∉ fp := fun z => q (hn b z)
    exact g.sep b (by rw [sans_out hb]; exact Same.ne g1.hh q) (g1.sep b q r)
section
variable {X : Cx} {B : Bs} {ρ : DEnv} {e o : Expr} {es : List Expr} {pos apos : Pos} {C : Addr} {m m' : Mv} {x : Str} {k : Nat} {ps : List Str} {ds : List PyData} {c : Value} {ln : Option PyData} {ex : DEnv → Value → Option PyData → Prop} {R : Mv → List PyData → Out → Mv → Prop}
theorem evx_tmp {pl : Sem Bool} (tk : TakesD X B ex) (cm : ClsM X.K C) (D : Mn X.prog X.w X.K X.mg X.base k C x ps R) (hr : Room k X.A) (ho : EVmk X B ex ρ C o (.ok m)) (ha : AV X B ρ (e :: es) ds) (hR : R m ds (.exc c ln) m') (hn : ([("order", V.non), ("steps", V.non), ("kept", V.non)] : List (Str × V)).lookup x = none := by rfl)
    (hst : starEach (e :: es) X.env = (false, eval e X.env) :: starEach es X.env := by rfl) (hpl : (backTo pos (starEach es X.env)).any (·.1) = false := by rfl)
    (ht : eval (.Call (.Attribute o x apos) (e :: es) [] pos) X.env = (eval o X.env >>= fun ov => standAt apos.atName >>= fun _ => holding [ov] (getMethod ov x pl) >>= fun r => callWith pos r.1 r.2 (backTo pos (starEach (e :: es) X.env)) (backToKw pos (keywordEach [] X.env))) := by rfl) :
    EVx X B ex ρ (.Call (.Attribute o x apos) (e :: es) [] pos) (.exc c ln) := by
  obtain ⟨f, fd, M, hb, F⟩ := D.ex
  refine PE.imp (pe_methX (pl := pl) tk ho cm.cls M F hr hb ha hst hpl ht) fun σ H Q ⟨G, en, k⟩ => ⟨G, en, fun a dx l H1 G1 g1 hn1 gn1 hh1 => ?_⟩
  obtain ⟨_, _, vo, vs, h1, r⟩ := id hh1
  refine ⟨a, dx, _, rfl, h1, ?_, G1, en.grow g1, fun us H2 G2 g2 p2 => ?_⟩
  · cases e1 : (x == ("order" : Str)) <;> cases e2 : (x == ("steps" : Str)) <;> cases e3 : (x == ("kept" : Str)) <;> simp only [List.lookup, e1, e2, e3] at hn ⊢ <;> cases hn
  · obtain ⟨_, hh2, n2⟩ := stb_mv G1 H1 G2 H2 (.ref a) g2 ⟨rfl, hh1, gn1⟩
    exact ⟨a, dx, l, us, G2, m, ds, _, m', rfl, g2.sub, g2.tc (g1.tc (en.gr.tc B.3)), hh2, n2, p2, hR, fun d H' G' g gn hm xa => ⟨G', ρ, ln, en.grow (grow_tmp (g1.trans g2) hn1 g), xa, k⟩⟩
theorem evx_tmp0 {pl : Sem Bool} (tk : TakesD X B ex) (cm : ClsM X.K C) (D : Mn X.prog X.w X.K X.mg X.base k C x ps R) (hr : Room k X.A) (ho : EVmk X B ex ρ C o (.ok m)) (hR : R m [] (.exc c ln) m') (hn : ([("order", V.non), ("steps", V.non), ("kept", V.non)] : List (Str × V)).lookup x = none := by rfl)
    (ht : eval (.Call (.Attribute o x apos) [] [] pos) X.env = (eval o X.env >>= fun ov => standAt apos.atName >>= fun _ => holding [ov] (getMethod ov x pl) >>= fun r => callWith pos r.1 r.2 (backTo pos (starEach [] X.env)) (backToKw pos (keywordEach [] X.env))) := by rfl) :
    EVx X B ex ρ (.Call (.Attribute o x apos) [] [] pos) (.exc c ln) := by
  obtain ⟨f, fd, M, hb, F⟩ := D.ex
  refine PE.imp (pe_meth0X (pl := pl) tk ho cm.cls M F hr hb ht) fun σ H Q ⟨G, en, k⟩ => ⟨G, en, fun a dx l H1 G1 g1 hn1 gn1 hh1 => ?_⟩
  obtain ⟨_, _, vo, vs, h1, r⟩ := id hh1
  refine ⟨a, dx, _, rfl, h1, ?_, ?_⟩
  · cases e1 : (x == ("order" : Str)) <;> cases e2 : (x == ("steps" : Str)) <;> cases e3 : (x == ("kept" : Str)) <;> simp only [List.lookup, e1, e2, e3] at hn ⊢ <;> cases hn
  · exact ⟨a, dx, l, [], G1, m, [], _, m', rfl, g1.sub, g1.tc (en.gr.tc B.3), hh1, gn1, .nil, hR, fun d H' G' g gn hm xa => ⟨G', ρ, ln, en.grow (grow_tmp g1 hn1 g), xa, k⟩⟩
end
end UP

namespace UP
open PySem PySem.Spec L2
def topS (i : Nat) : Stmt := PySem.Challenge.pw_upwardmoves_k12_exceptions.main.body.getD i (.Pass ⟨0, 0, 0, 0⟩)
abbrev s_ParseError___init__ : Stmt := inClass (topS 3) 0
abbrev N_ParseError___init__ : List Str := ["self", "line"]
theorem sc_ParseError___init__ : FnScope N_ParseError___init__ ["self", "line"] (defScope s_ParseError___init__) := ⟨rfl, rfl, rfl, by decide +kernel, rfl, by decide +kernel, by decide +kernel⟩
theorem bd_ParseError___init__ : ∀ (kV doc pm : Value) (an : Option Addr) (cdv ct : Value) (us : List Value), us.length = (["self", "line"] : List Str).length → bindArgs (PySem.W.fnOf "__init__" "ParseError.__init__" (defArgs s_ParseError___init__) (defBody s_ParseError___init__) (defScope s_ParseError___init__) .none kV doc pm an cdv ct) ⟨us, []⟩ = pure ((["self", "line"] : List Str).zip us) := fun _ _ _ _ _ _ us hl => match us, hl with | [_, _], _ => rfl
abbrev s_in_range : Stmt := topS 15
abbrev N_in_range : List Str := ["value", "low", "high"]
theorem sc_in_range : FnScope N_in_range ["value", "low", "high"] (defScope s_in_range) := ⟨rfl, rfl, rfl, by decide +kernel, rfl, by decide +kernel, by decide +kernel⟩
theorem bd_in_range : ∀ (kV doc pm : Value) (an : Option Addr) (cdv ct : Value) (us : List Value), us.length = (["value", "low", "high"] : List Str).length → bindArgs (PySem.W.fnOf "in_range" "in_range" (defArgs s_in_range) (defBody s_in_range) (defScope s_in_range) .none kV doc pm an cdv ct) ⟨us, []⟩ = pure ((["value", "low", "high"] : List Str).zip us) := fun _ _ _ _ _ _ us hl => match us, hl with | [_, _, _], _ => rfl
abbrev s_is_rising : Stmt := topS 16
abbrev N_is_rising : List Str := ["value", "count", "one", "other"]
theorem sc_is_rising : FnScope N_is_rising ["value", "count"] (defScope s_is_rising) := ⟨rfl, rfl, rfl, by decide +kernel, rfl, by decide +kernel, by decide +kernel⟩
theorem bd_is_rising : ∀ (kV doc pm : Value) (an : Option Addr) (cdv ct : Value) (us : List Value), us.length = (["value", "count"] : List Str).length → bindArgs (PySem.W.fnOf "is_rising" "is_rising" (defArgs s_is_rising) (defBody s_is_rising) (defScope s_is_rising) .none kV doc pm an cdv ct) ⟨us, []⟩ = pure ((["value", "count"] : List Str).zip us) := fun _ _ _ _ _ _ us hl => match us, hl with | [_, _], _ => rfl
abbrev s_is_order : Stmt := topS 17
abbrev N_is_order : List Str := ["value", "row", "point", "other", "more"]
theorem sc_is_order : FnScope N_is_order ["value"] (defScope s_is_order) := ⟨rfl, rfl, rfl, by decide +kernel, rfl, by decide +kernel, by decide +kernel⟩
theorem bd_is_order : ∀ (kV doc pm : Value) (an : Option Addr) (cdv ct : Value) (us : List Value), us.length = (["value"] : List Str).length → bindArgs (PySem.W.fnOf "is_order" "is_order" (defArgs s_is_order) (defBody s_is_order) (defScope s_is_order) .none kV doc pm an cdv ct) ⟨us, []⟩ = pure ((["value"] : List Str).zip us) := fun _ _ _ _ _ _ us hl => match us, hl with | [_], _ => rfl
abbrev s_check_order : Stmt := topS 18
abbrev N_check_order : List Str := ["order"]
theorem sc_check_order : FnScope N_check_order ["order"] (defScope s_check_order) := ⟨rfl, rfl, rfl, by decide +kernel, rfl, by decide +kernel, by decide +kernel⟩
theorem bd_check_order : ∀ (kV doc pm : Value) (an : Option Addr) (cdv ct : Value) (us : List Value), us.length = (["order"] : List Str).length → bindArgs (PySem.W.fnOf "check_order" "check_order" (defArgs s_check_order) (defBody s_check_order) (defScope s_check_order) .none kV doc pm an cdv ct) ⟨us, []⟩ = pure ((["order"] : List Str).zip us) := fun _ _ _ _ _ _ us hl => match us, hl with | [_], _ => rfl
abbrev s_are_weights : Stmt := topS 19
abbrev N_are_weights : List Str := ["order", "value", "one"]
theorem sc_are_weights : FnScope N_are_weights ["order", "value"] (defScope s_are_weights) := ⟨rfl, rfl, rfl, by decide +kernel, rfl, by decide +kernel, by decide +kernel⟩
theorem bd_are_weights : ∀ (kV doc pm : Value) (an : Option Addr) (cdv ct : Value) (us : List Value), us.length = (["order", "value"] : List Str).length → bindArgs (PySem.W.fnOf "are_weights" "are_weights" (defArgs s_are_weights) (defBody s_are_weights) (defScope s_are_weights) .none kV doc pm an cdv ct) ⟨us, []⟩ = pure ((["order", "value"] : List Str).zip us) := fun _ _ _ _ _ _ us hl => match us, hl with | [_, _], _ => rfl
abbrev s_check_weights : Stmt := topS 20
abbrev N_check_weights : List Str := ["order", "weights"]
theorem sc_check_weights : FnScope N_check_weights ["order", "weights"] (defScope s_check_weights) := ⟨rfl, rfl, rfl, by decide +kernel, rfl, by decide +kernel, by decide +kernel⟩
theorem bd_check_weights : ∀ (kV doc pm : Value) (an : Option Addr) (cdv ct : Value) (us : List Value), us.length = (["order", "weights"] : List Str).length → bindArgs (PySem.W.fnOf "check_weights" "check_weights" (defArgs s_check_weights) (defBody s_check_weights) (defScope s_check_weights) .none kV doc pm an cdv ct) ⟨us, []⟩ = pure ((["order", "weights"] : List Str).zip us) := fun _ _ _ _ _ _ us hl => match us, hl with | [_, _], _ => rfl
abbrev s_check_pair : Stmt := topS 21
abbrev N_check_pair : List Str := ["order", "one", "other"]
theorem sc_check_pair : FnScope N_check_pair ["order", "one", "other"] (defScope s_check_pair) := ⟨rfl, rfl, rfl, by decide +kernel, rfl, by decide +kernel, by decide +kernel⟩
theorem bd_check_pair : ∀ (kV doc pm : Value) (an : Option Addr) (cdv ct : Value) (us : List Value), us.length = (["order", "one", "other"] : List Str).length → bindArgs (PySem.W.fnOf "check_pair" "check_pair" (defArgs s_check_pair) (defBody s_check_pair) (defScope s_check_pair) .none kV doc pm an cdv ct) ⟨us, []⟩ = pure ((["order", "one", "other"] : List Str).zip us) := fun _ _ _ _ _ _ us hl => match us, hl with | [_, _, _], _ => rfl
abbrev s_check_point : Stmt := topS 22
abbrev N_check_point : List Str := ["order", "point"]
theorem sc_check_point : FnScope N_check_point ["order", "point"] (defScope s_check_point) := ⟨rfl, rfl, rfl, by decide +kernel, rfl, by decide +kernel, by decide +kernel⟩
theorem bd_check_point : ∀ (kV doc pm : Value) (an : Option Addr) (cdv ct : Value) (us : List Value), us.length = (["order", "point"] : List Str).length → bindArgs (PySem.W.fnOf "check_point" "check_point" (defArgs s_check_point) (defBody s_check_point) (defScope s_check_point) .none kV doc pm an cdv ct) ⟨us, []⟩ = pure ((["order", "point"] : List Str).zip us) := fun _ _ _ _ _ _ us hl => match us, hl with | [_, _], _ => rfl
abbrev s_is_closed_set : Stmt := topS 23
abbrev N_is_closed_set : List Str := ["order", "some", "point", "more"]
theorem sc_is_closed_set : FnScope N_is_closed_set ["order", "some"] (defScope s_is_closed_set) := ⟨rfl, rfl, rfl, by decide +kernel, rfl, by decide +kernel, by decide +kernel⟩
theorem bd_is_closed_set : ∀ (kV doc pm : Value) (an : Option Addr) (cdv ct : Value) (us : List Value), us.length = (["order", "some"] : List Str).length → bindArgs (PySem.W.fnOf "is_closed_set" "is_closed_set" (defArgs s_is_closed_set) (defBody s_is_closed_set) (defScope s_is_closed_set) .none kV doc pm an cdv ct) ⟨us, []⟩ = pure ((["order", "some"] : List Str).zip us) := fun _ _ _ _ _ _ us hl => match us, hl with | [_, _], _ => rfl
abbrev s_every_closed : Stmt := topS 24
abbrev N_every_closed : List Str := ["order", "found", "point", "some"]
theorem sc_every_closed : FnScope N_every_closed ["order"] (defScope s_every_closed) := ⟨rfl, rfl, rfl, by decide +kernel, rfl, by decide +kernel, by decide +kernel⟩
theorem bd_every_closed : ∀ (kV doc pm : Value) (an : Option Addr) (cdv ct : Value) (us : List Value), us.length = (["order"] : List Str).length → bindArgs (PySem.W.fnOf "every_closed" "every_closed" (defArgs s_every_closed) (defBody s_every_closed) (defScope s_every_closed) .none kV doc pm an cdv ct) ⟨us, []⟩ = pure ((["order"] : List Str).zip us) := fun _ _ _ _ _ _ us hl => match us, hl with | [_], _ => rfl
abbrev s_closed_sets : Stmt := topS 25
abbrev N_closed_sets : List Str := ["order"]
theorem sc_closed_sets : FnScope N_closed_sets ["order"] (defScope s_closed_sets) := ⟨rfl, rfl, rfl, by decide +kernel, rfl, by decide +kernel, by decide +kernel⟩
theorem bd_closed_sets : ∀ (kV doc pm : Value) (an : Option Addr) (cdv ct : Value) (us : List Value), us.length = (["order"] : List Str).length → bindArgs (PySem.W.fnOf "closed_sets" "closed_sets" (defArgs s_closed_sets) (defBody s_closed_sets) (defScope s_closed_sets) .none kV doc pm an cdv ct) ⟨us, []⟩ = pure ((["order"] : List Str).zip us) := fun _ _ _ _ _ _ us hl => match us, hl with | [_], _ => rfl
abbrev s_neighbors_above : Stmt := topS 27
abbrev N_neighbors_above : List Str := ["order", "point"]
theorem sc_neighbors_above : FnScope N_neighbors_above ["order", "point"] (defScope s_neighbors_above) := ⟨rfl, rfl, rfl, by decide +kernel, rfl, by decide +kernel, by decide +kernel⟩
theorem bd_neighbors_above : ∀ (kV doc pm : Value) (an : Option Addr) (cdv ct : Value) (us : List Value), us.length = (["order", "point"] : List Str).length → bindArgs (PySem.W.fnOf "neighbors_above" "neighbors_above" (defArgs s_neighbors_above) (defBody s_neighbors_above) (defScope s_neighbors_above) .none kV doc pm an cdv ct) ⟨us, []⟩ = pure ((["order", "point"] : List Str).zip us) := fun _ _ _ _ _ _ us hl => match us, hl with | [_, _], _ => rfl
abbrev s_held : Stmt := topS 28
abbrev N_held : List Str := ["weights", "some", "point"]
theorem sc_held : FnScope N_held ["weights", "some"] (defScope s_held) := ⟨rfl, rfl, rfl, by decide +kernel, rfl, by decide +kernel, by decide +kernel⟩
theorem bd_held : ∀ (kV doc pm : Value) (an : Option Addr) (cdv ct : Value) (us : List Value), us.length = (["weights", "some"] : List Str).length → bindArgs (PySem.W.fnOf "held" "held" (defArgs s_held) (defBody s_held) (defScope s_held) .none kV doc pm an cdv ct) ⟨us, []⟩ = pure ((["weights", "some"] : List Str).zip us) := fun _ _ _ _ _ _ us hl => match us, hl with | [_, _], _ => rfl
abbrev s_parse_weights : Stmt := topS 32
abbrev N_parse_weights : List Str := ["order", "text", "found", "number", "token"]
theorem sc_parse_weights : FnScope N_parse_weights ["order", "text"] (defScope s_parse_weights) := ⟨rfl, rfl, rfl, by decide +kernel, rfl, by decide +kernel, by decide +kernel⟩
theorem bd_parse_weights : ∀ (kV doc pm : Value) (an : Option Addr) (cdv ct : Value) (us : List Value), us.length = (["order", "text"] : List Str).length → bindArgs (PySem.W.fnOf "parse_weights" "parse_weights" (defArgs s_parse_weights) (defBody s_parse_weights) (defScope s_parse_weights) .none kV doc pm an cdv ct) ⟨us, []⟩ = pure ((["order", "text"] : List Str).zip us) := fun _ _ _ _ _ _ us hl => match us, hl with | [_, _], _ => rfl
abbrev s_paper_of : Stmt := topS 38
abbrev N_paper_of : List Str := ["order", "one", "other", "some"]
theorem sc_paper_of : FnScope N_paper_of ["order", "one", "other"] (defScope s_paper_of) := ⟨rfl, rfl, rfl, by decide +kernel, rfl, by decide +kernel, by decide +kernel⟩
theorem bd_paper_of : ∀ (kV doc pm : Value) (an : Option Addr) (cdv ct : Value) (us : List Value), us.length = (["order", "one", "other"] : List Str).length → bindArgs (PySem.W.fnOf "paper_of" "paper_of" (defArgs s_paper_of) (defBody s_paper_of) (defScope s_paper_of) .none kV doc pm an cdv ct) ⟨us, []⟩ = pure ((["order", "one", "other"] : List Str).zip us) := fun _ _ _ _ _ _ us hl => match us, hl with | [_, _, _], _ => rfl
abbrev s_can_reach : Stmt := topS 39
abbrev N_can_reach : List Str := ["order", "one", "other"]
theorem sc_can_reach : FnScope N_can_reach ["order", "one", "other"] (defScope s_can_reach) := ⟨rfl, rfl, rfl, by decide +kernel, rfl, by decide +kernel, by decide +kernel⟩
theorem bd_can_reach : ∀ (kV doc pm : Value) (an : Option Addr) (cdv ct : Value) (us : List Value), us.length = (["order", "one", "other"] : List Str).length → bindArgs (PySem.W.fnOf "can_reach" "can_reach" (defArgs s_can_reach) (defBody s_can_reach) (defScope s_can_reach) .none kV doc pm an cdv ct) ⟨us, []⟩ = pure ((["order", "one", "other"] : List Str).zip us) := fun _ _ _ _ _ _ us hl => match us, hl with | [_, _, _], _ => rfl
abbrev s_plan : Stmt := topS 40
abbrev N_plan : List Str := ["order", "one", "other"]
theorem sc_plan : FnScope N_plan ["order", "one", "other"] (defScope s_plan) := ⟨rfl, rfl, rfl, by decide +kernel, rfl, by decide +kernel, by decide +kernel⟩
theorem bd_plan : ∀ (kV doc pm : Value) (an : Option Addr) (cdv ct : Value) (us : List Value), us.length = (["order", "one", "other"] : List Str).length → bindArgs (PySem.W.fnOf "plan" "plan" (defArgs s_plan) (defBody s_plan) (defScope s_plan) .none kV doc pm an cdv ct) ⟨us, []⟩ = pure ((["order", "one", "other"] : List Str).zip us) := fun _ _ _ _ _ _ us hl => match us, hl with | [_, _, _], _ => rfl
abbrev s_paper : Stmt := topS 41
abbrev N_paper : List Str := ["order", "one", "other", "found"]
theorem sc_paper : FnScope N_paper ["order", "one", "other"] (defScope s_paper) := ⟨rfl, rfl, rfl, by decide +kernel, rfl, by decide +kernel, by decide +kernel⟩
theorem bd_paper : ∀ (kV doc pm : Value) (an : Option Addr) (cdv ct : Value) (us : List Value), us.length = (["order", "one", "other"] : List Str).length → bindArgs (PySem.W.fnOf "paper" "paper" (defArgs s_paper) (defBody s_paper) (defScope s_paper) .none kV doc pm an cdv ct) ⟨us, []⟩ = pure ((["order", "one", "other"] : List Str).zip us) := fun _ _ _ _ _ _ us hl => match us, hl with | [_, _, _], _ => rfl
abbrev s_stepped : Stmt := topS 43
abbrev N_stepped : List Str := ["weights", "start", "goal", "result"]
theorem sc_stepped : FnScope N_stepped ["weights", "start", "goal"] (defScope s_stepped) := ⟨rfl, rfl, rfl, by decide +kernel, rfl, by decide +kernel, by decide +kernel⟩
theorem bd_stepped : ∀ (kV doc pm : Value) (an : Option Addr) (cdv ct : Value) (us : List Value), us.length = (["weights", "start", "goal"] : List Str).length → bindArgs (PySem.W.fnOf "stepped" "stepped" (defArgs s_stepped) (defBody s_stepped) (defScope s_stepped) .none kV doc pm an cdv ct) ⟨us, []⟩ = pure ((["weights", "start", "goal"] : List Str).zip us) := fun _ _ _ _ _ _ us hl => match us, hl with | [_, _, _], _ => rfl
abbrev s_Mover___init__ : Stmt := inClass (topS 45) 0
abbrev N_Mover___init__ : List Str := ["self", "order", "weights"]
theorem sc_Mover___init__ : FnScope N_Mover___init__ ["self", "order", "weights"] (defScope s_Mover___init__) := ⟨rfl, rfl, rfl, by decide +kernel, rfl, by decide +kernel, by decide +kernel⟩
theorem bd_Mover___init__ : ∀ (kV doc pm : Value) (an : Option Addr) (cdv ct : Value) (us : List Value), us.length = (["self", "order", "weights"] : List Str).length → bindArgs (PySem.W.fnOf "__init__" "Mover.__init__" (defArgs s_Mover___init__) (defBody s_Mover___init__) (defScope s_Mover___init__) .none kV doc pm an cdv ct) ⟨us, []⟩ = pure ((["self", "order", "weights"] : List Str).zip us) := fun _ _ _ _ _ _ us hl => match us, hl with | [_, _, _], _ => rfl
abbrev s_Mover_options : Stmt := inClass (topS 45) 6
abbrev N_Mover_options : List Str := ["self", "result", "point", "one", "goal"]
theorem sc_Mover_options : FnScope N_Mover_options ["self"] (defScope s_Mover_options) := ⟨rfl, rfl, rfl, by decide +kernel, rfl, by decide +kernel, by decide +kernel⟩
theorem bd_Mover_options : ∀ (kV doc pm : Value) (an : Option Addr) (cdv ct : Value) (us : List Value), us.length = (["self"] : List Str).length → bindArgs (PySem.W.fnOf "options" "Mover.options" (defArgs s_Mover_options) (defBody s_Mover_options) (defScope s_Mover_options) .none kV doc pm an cdv ct) ⟨us, []⟩ = pure ((["self"] : List Str).zip us) := fun _ _ _ _ _ _ us hl => match us, hl with | [_], _ => rfl
abbrev s_Mover_move : Stmt := inClass (topS 45) 7
abbrev N_Mover_move : List Str := ["self", "start", "goal"]
theorem sc_Mover_move : FnScope N_Mover_move ["self", "start", "goal"] (defScope s_Mover_move) := ⟨rfl, rfl, rfl, by decide +kernel, rfl, by decide +kernel, by decide +kernel⟩
theorem bd_Mover_move : ∀ (kV doc pm : Value) (an : Option Addr) (cdv ct : Value) (us : List Value), us.length = (["self", "start", "goal"] : List Str).length → bindArgs (PySem.W.fnOf "move" "Mover.move" (defArgs s_Mover_move) (defBody s_Mover_move) (defScope s_Mover_move) .none kV doc pm an cdv ct) ⟨us, []⟩ = pure ((["self", "start", "goal"] : List Str).zip us) := fun _ _ _ _ _ _ us hl => match us, hl with | [_, _, _], _ => rfl
abbrev s_Mover_undo : Stmt := inClass (topS 45) 8
abbrev N_Mover_undo : List Str := ["self"]
theorem sc_Mover_undo : FnScope N_Mover_undo ["self"] (defScope s_Mover_undo) := ⟨rfl, rfl, rfl, by decide +kernel, rfl, by decide +kernel, by decide +kernel⟩
theorem bd_Mover_undo : ∀ (kV doc pm : Value) (an : Option Addr) (cdv ct : Value) (us : List Value), us.length = (["self"] : List Str).length → bindArgs (PySem.W.fnOf "undo" "Mover.undo" (defArgs s_Mover_undo) (defBody s_Mover_undo) (defScope s_Mover_undo) .none kV doc pm an cdv ct) ⟨us, []⟩ = pure ((["self"] : List Str).zip us) := fun _ _ _ _ _ _ us hl => match us, hl with | [_], _ => rfl
abbrev s_check_answers : Stmt := topS 49
abbrev N_check_answers : List Str := ["order", "total", "answers", "answer"]
theorem sc_check_answers : FnScope N_check_answers ["order", "total", "answers"] (defScope s_check_answers) := ⟨rfl, rfl, rfl, by decide +kernel, rfl, by decide +kernel, by decide +kernel⟩
theorem bd_check_answers : ∀ (kV doc pm : Value) (an : Option Addr) (cdv ct : Value) (us : List Value), us.length = (["order", "total", "answers"] : List Str).length → bindArgs (PySem.W.fnOf "check_answers" "check_answers" (defArgs s_check_answers) (defBody s_check_answers) (defScope s_check_answers) .none kV doc pm an cdv ct) ⟨us, []⟩ = pure ((["order", "total", "answers"] : List Str).zip us) := fun _ _ _ _ _ _ us hl => match us, hl with | [_, _, _], _ => rfl
abbrev s_candidates : Stmt := topS 50
abbrev N_candidates : List Str := ["order", "total", "answers", "result", "weights", "some", "told"]
theorem sc_candidates : FnScope N_candidates ["order", "total", "answers"] (defScope s_candidates) := ⟨rfl, rfl, rfl, by decide +kernel, rfl, by decide +kernel, by decide +kernel⟩
theorem bd_candidates : ∀ (kV doc pm : Value) (an : Option Addr) (cdv ct : Value) (us : List Value), us.length = (["order", "total", "answers"] : List Str).length → bindArgs (PySem.W.fnOf "candidates" "candidates" (defArgs s_candidates) (defBody s_candidates) (defScope s_candidates) .none kV doc pm an cdv ct) ⟨us, []⟩ = pure ((["order", "total", "answers"] : List Str).zip us) := fun _ _ _ _ _ _ us hl => match us, hl with | [_, _, _], _ => rfl
abbrev s__law_cell : Stmt := topS 52
abbrev N__law_cell : List Str := ["script", "k"]
theorem sc__law_cell : FnScope N__law_cell ["script", "k"] (defScope s__law_cell) := ⟨rfl, rfl, rfl, by decide +kernel, rfl, by decide +kernel, by decide +kernel⟩
theorem bd__law_cell : ∀ (kV doc pm : Value) (an : Option Addr) (cdv ct : Value) (us : List Value), us.length = (["script", "k"] : List Str).length → bindArgs (PySem.W.fnOf "_law_cell" "_law_cell" (defArgs s__law_cell) (defBody s__law_cell) (defScope s__law_cell) .none kV doc pm an cdv ct) ⟨us, []⟩ = pure ((["script", "k"] : List Str).zip us) := fun _ _ _ _ _ _ us hl => match us, hl with | [_, _], _ => rfl
abbrev s__law_raise : Stmt := topS 53
abbrev N__law_raise : List Str := ["mode", "pair"]
theorem sc__law_raise : FnScope N__law_raise ["mode"] (defScope s__law_raise) := ⟨rfl, rfl, rfl, by decide +kernel, rfl, by decide +kernel, by decide +kernel⟩
theorem bd__law_raise : ∀ (kV doc pm : Value) (an : Option Addr) (cdv ct : Value) (us : List Value), us.length = (["mode"] : List Str).length → bindArgs (PySem.W.fnOf "_law_raise" "_law_raise" (defArgs s__law_raise) (defBody s__law_raise) (defScope s__law_raise) .none kV doc pm an cdv ct) ⟨us, []⟩ = pure ((["mode"] : List Str).zip us) := fun _ _ _ _ _ _ us hl => match us, hl with | [_], _ => rfl
abbrev s_law : Stmt := topS 54
abbrev N_law : List Str := ["script", "mode", "found", "is_under", "line_here", "e", "at"]
theorem sc_law : FnScope N_law ["script"] (defScope s_law) := ⟨rfl, rfl, rfl, by decide +kernel, rfl, by decide +kernel, by decide +kernel⟩
theorem bd_law : ∀ (kV doc pm : Value) (an : Option Addr) (cdv ct : Value) (us : List Value), us.length = (["script"] : List Str).length → bindArgs (PySem.W.fnOf "law" "law" (defArgs s_law) (defBody s_law) (defScope s_law) .none kV doc pm an cdv ct) ⟨us, []⟩ = pure ((["script"] : List Str).zip us) := fun _ _ _ _ _ _ us hl => match us, hl with | [_], _ => rfl
section
variable {P : Program} {w : World} {K : PySem.W.Frag} {mg : Str → Option Value} {base : Heap}
def R_in_range : List PyData → Out → Prop := fun ds o => ∃ d lo hi, ds = [d, .int lo, .int hi] ∧ o = .ret (.bool (inR d lo hi))
abbrev D_in_range (P : Program) (w : World) (K : PySem.W.Frag) (mg : Str → Option Value) (base : Heap) : Prop := Dn P w K mg base 1 "in_range" ["value", "low", "high"] R_in_range
theorem ok_in_range (bi : BI mg) (D : DefAt K mg "in_range" s_in_range) : D_in_range P w K mg base := by
  refine dn_of D sc_in_range bd_in_range (fun ds o ⟨_, _, _, h, _⟩ => by rw [h]; rfl) ?_
  rintro f cdv A outer s H E B _ _ ⟨d, lo, hi, rfl, rfl⟩ hr po tk
  refine sd_one (sd_ret (d := .bool (isInt d && ((!isBool d) && inR d lo hi))) (ev_and (e_isInt bi (ev_var 0)) fun h1 => ev_and (ev_not (e_isBool bi (ev_var 0))) fun h2 => ev_one ?_) ?_)
  · cases d with
    | int i => exact ev_chain (ev_var 1) (ev_var 0) (ev_var 2)
    | bool b => cases h2
    | _ => cases h1
  · cases d <;> simp [inR, isInt, isBool]

end
section
variable {P : Program} {w : World} {K : PySem.W.Frag} {mg : Str → Option Value} {base : Heap}
open Classical in
def R_is_rising : List PyData → Out → Prop := fun ds o => ∃ d n, ds = [d, encN n] ∧ o = .ret (.bool (decide (RisD d n)))
open Classical in
abbrev D_is_rising (P : Program) (w : World) (K : PySem.W.Frag) (mg : Str → Option Value) (base : Heap) : Prop := Dn P w K mg base 2 "is_rising" ["value", "count"] R_is_rising
open Classical in
theorem ok_is_rising (bi : BI mg) (h1 : D_in_range P w K mg base) (D : DefAt K mg "is_rising" s_is_rising) : D_is_rising P w K mg base := by
  refine dn_of D sc_is_rising bd_is_rising (fun ds o ⟨_, _, h, _⟩ => by rw [h]; rfl) ?_
  rintro f cdv A outer s H E B _ _ ⟨d, n, rfl, rfl⟩ hr po tk
  by_cases hd : isTup d = true
  · obtain ⟨ds, rfl⟩ : ∃ ds, d = .tuple ds := by cases d <;> first | exact ⟨_, rfl⟩ | cases hd
    refine sd_lenT (i := 0) rfl fun hz => ?_
    refine sd_seq (sd_if (WV.tv (wv_or (tv_not (tv_val (e_isTup bi (ev_var 0)))) fun _ => wv_or1 (tv_sq (EVP.sqL (EVf.o
        (ev_lc (own := [("one", 2)]) (xs := ds) (f := fun x => x) (g := fun x => x) (pr := fun x => !inR x 0 ((n : Int) - 1)) (ρx := fun x => [.d (.tuple ds), .d (encN n), .d x, .un]) rfl sc_is_rising.nd hz (IV.id (iv_tup (ev_var 0))) (blkOk_by (N := N_is_rising) (sc := defScope s_is_rising) (by decide +kernel)) (fun x _ _ _ _ _ _ => gv_name (i := 2) sc_is_rising.nd)
          (fun x _ _ _ _ _ _ => tvs_one (tv_not (tv_val (ev_fn h1 hr (av_cons (ev_var 2) (av_cons ev_int (av_one (ev_sub (ev_var 1) ev_int)))) ⟨_, _, _, rfl, rfl⟩))))
          (fun x _ _ _ _ _ _ _ => ev_var 2))))))) (fun hc => sd_one (sd_ret ev_bl ?_)) (fun hc => sd_nil ?_))
    · refine retB (decide_eq_false ?_)
      rintro ⟨r, e, _, hb⟩
      have e := PyData.tuple.inj e
      have : ds.filter (fun x => !inR x 0 ((n : Int) - 1)) = [] := by
        rw [List.filter_eq_nil_iff]
        intro x hx
        rw [e] at hx
        obtain ⟨m, hm, rfl⟩ := List.mem_map.mp hx
        rw [inR_nat.mpr ⟨m, rfl, hb m hm⟩]
        exact Bool.false_ne_true
      rw [this] at hc
      cases hc
    · have hall : ∀ x ∈ ds, ∃ m : Nat, x = encN m ∧ m < n := by
        intro x hx
        refine inR_nat.mp ?_
        cases q : inR x 0 ((n : Int) - 1) with
        | true => rfl
        | false =>
          exfalso
          have hm : x ∈ ds.filter (fun x => !inR x 0 ((n : Int) - 1)) := List.mem_filter.mpr ⟨hx, by rw [q]; rfl⟩
          cases e : ds.filter (fun x => !inR x 0 ((n : Int) - 1)) with
          | nil => rw [e] at hm; cases hm
          | cons y l => rw [e] at hc; cases hc
      obtain ⟨r, rfl, hb⟩ := all_nat hall
      refine sd_one (sd_ret (d := .bool (((r.zip (r.drop 1)).filter fun p => decide (p.2 ≤ p.1)).map fun _ => PyData.int 1).isEmpty) (ev_notS (EVP.sqL (EVf.o
        (ev_lc (own := [("one", 2), ("other", 3)]) (xs := r.zip (r.drop 1)) (f := fun p => pairD (encN p.1) (encN p.2)) (g := fun _ => .int 1) (pr := fun p => decide (p.2 ≤ p.1)) (ρx := fun p => [.d (encR r), .d (encN n), .d (encN p.1), .d (encN p.2)]) rfl sc_is_rising.nd ?_
          (IV.to (iv_zipT bi.zip (ev_var 0) (ev_slT (ev_var 0) (ov_some ev_int) ov_none)) ?_) (blkOk_by (N := N_is_rising) (sc := defScope s_is_rising) (by decide +kernel)) (fun x _ _ _ _ _ _ => gv_tup rfl (gvs_cons (gv_name (i := 2) sc_is_rising.nd) (gvs_cons (gv_name (i := 3) sc_is_rising.nd) gvs_nil)))
          (fun x _ _ _ _ _ _ => tvs_one (TV.to (tv_ge (ev_var 2) (ev_var 3)) ?_))
          (fun x _ _ _ _ _ _ _ => ev_int))))) ?_)
      · rw [List.length_zip]
        rw [List.length_map] at hz
        omega
      · rw [cut1, ← List.map_drop, zipD_map]
      · simp
      · refine retB ?_
        rw [List.isEmpty_map]
        refine Bool.eq_iff_iff.mpr ?_
        rw [rise_iff, decide_eq_true_iff]
        constructor
        · rintro ⟨r', e, h, _⟩
          rw [encR_inj e]; exact h
        · exact fun h => ⟨r, rfl, h, hb⟩
  · have hd' : isTup d = false := by cases q : isTup d <;> simp_all
    refine sd_seq (sd_if (WV.tv (wv_or (c' := true) (tv_not (tv_val (e_isTup bi (ev_var 0)))) fun q => ?_)) (fun hc => sd_one (sd_ret ev_bl ?_)) (fun hc => ?_))
    · rw [hd'] at q; cases q
    · refine retB (decide_eq_false ?_)
      rintro ⟨r, e, _⟩
      rw [e] at hd'; cases hd'
    · rw [hd'] at hc; cases hc

end
section
variable {P : Program} {w : World} {K : PySem.W.Frag} {mg : Str → Option Value} {base : Heap}
open Classical in
def R_is_order : List PyData → Out → Prop := fun ds o => ∃ d, ds = [d] ∧ o = .ret (.bool (decide (IsOrdD d)))
open Classical in
abbrev D_is_order (P : Program) (w : World) (K : PySem.W.Frag) (mg : Str → Option Value) (base : Heap) : Prop := Dn P w K mg base 3 "is_order" ["value"] R_is_order
open Classical in
theorem ok_is_order (bi : BI mg) (hm : ∃ t, mg "MAX_POINTS" = some (.int 6 t)) (h1 : D_is_rising P w K mg base) (D : DefAt K mg "is_order" s_is_order) : D_is_order P w K mg base := by
  obtain ⟨tM, hM⟩ := hm
  refine dn_of D sc_is_order bd_is_order (fun ds o ⟨_, h, _⟩ => by rw [h]; rfl) ?_
  rintro f cdv A outer s H E B _ _ ⟨d, rfl, rfl⟩ hr po tk
  by_cases hd : isTup d = true
  · obtain ⟨ds, rfl⟩ : ∃ ds, d = .tuple ds := by cases d <;> first | exact ⟨_, rfl⟩ | cases hd
    refine sd_lenT (i := 0) rfl fun hz => ?_
    refine sd_seq (sd_if (WV.tv (wv_or (tv_not (tv_val (e_isTup bi (ev_var 0)))) fun _ => wv_or1 (tv_not (tv_chain ev_int (ev_len bi.len (EVP.sqT (ev_var 0))) (ev_glI hM))))) (fun hc => sd_one (sd_ret ev_bl ?_)) (fun hc => sd_nil ?_))
    · refine retB (decide_eq_false ?_)
      rintro ⟨o, e, ho⟩
      have e := PyData.tuple.inj e
      have a := ho.pos
      have b := ho.most
      rw [e, List.length_map] at hc
      simp [isTup] at hc
      omega
    · have hlen : 1 ≤ ds.length ∧ ds.length ≤ 6 := by
        simp [isTup] at hc
        omega
      refine sd_seq (sd_if (tv_sq (EVP.sqL (EVf.o (ev_lc (own := [("row", 1)]) (xs := ds) (f := fun x => x) (g := fun x => x) (pr := fun x => !decide (RisD x ds.length)) (ρx := fun x => [.d (.tuple ds), .d x, .un, .un, .un]) rfl sc_is_order.nd hz (IV.id (iv_tup (ev_var 0))) (blkOk_by (N := N_is_order) (sc := defScope s_is_order) (by decide +kernel)) (fun x _ _ _ _ _ _ => gv_name (i := 1) sc_is_order.nd)
          (fun x _ _ _ _ _ _ => tvs_one (tv_not (tv_val (ev_fn h1 hr (av_cons (ev_var 1) (av_one (ev_len bi.len (EVP.sqT (ev_var 0))))) ⟨_, _, rfl, rfl⟩))))
          (fun x _ _ _ _ _ _ _ => ev_var 1))))) (fun hc => sd_one (sd_ret ev_bl ?_)) (fun hc => sd_nil ?_))
      · refine retB (decide_eq_false ?_)
        rintro ⟨o, e, ho⟩
        have e := PyData.tuple.inj e
        have : ds.filter (fun x => !decide (RisD x ds.length)) = [] := by
          rw [List.filter_eq_nil_iff]
          intro x hx
          have hx' := hx
          rw [e] at hx'
          obtain ⟨m, hm, rfl⟩ := List.mem_map.mp hx'
          rw [decide_eq_true (show RisD (encR m) ds.length from ⟨m, rfl, by rw [e, List.length_map]; exact ho.rows m hm⟩)]
          exact Bool.false_ne_true
        rw [this] at hc
        cases hc
      · have hall : ∀ x ∈ ds, RisD x ds.length := by
          intro x hx
          refine Classical.byContradiction fun q => ?_
          have hm : x ∈ ds.filter (fun x => !decide (RisD x ds.length)) := List.mem_filter.mpr ⟨hx, by rw [decide_eq_false q]; rfl⟩
          cases e : ds.filter (fun x => !decide (RisD x ds.length)) with
          | nil => rw [e] at hm; cases hm
          | cons y l => rw [e] at hc; cases hc
        obtain ⟨o, rfl, ho⟩ : ∃ o : List (List Nat), ds = o.map encR ∧ ∀ r ∈ o, Ris r ds.length := rows_of hall
        rw [List.length_map] at ho hlen
        have mono : ∀ {i : Nat} {r : List Nat}, o[i]? = some r → ∀ k ∈ r, k < o.length := fun hi k hk => (ho _ (List.mem_of_getElem? hi)).2 k hk
        refine sd_seq (sd_forW (xs := List.range o.length) (f := fun i => pairD (encN i) (encR (o.getD i []))) (fun _ => [.d (encO o), .un, .un, .un, .un]) (fun i => ∀ j, j < i → ∀ r, o[j]? = some r → j ∉ r ∧ ∀ k ∈ r, ∀ r', o[k]? = some r' → ∀ m ∈ r', m ∈ r) [2, 1] (fun i y => [.d (encO o), .d (encR (o.getD y [])), .d (encN y), .un, .un]) po rfl
          (IV.to (iv_enumT bi.enum (ev_var 0)) (enumD_map encR o [])) ?_ (fun j hj => absurd hj (Nat.not_lt_zero _))
          (fun i y hy _ => gv_tup rfl (gvs_cons (gv_name (i := 2) sc_is_order.nd) (gvs_cons (gv_name (i := 1) sc_is_order.nd) gvs_nil))) (fun i y hy hC => ?_) (fun ρn le hC => ?_))
        · exact ⟨.inr rfl, .inl rfl, .inl rfl, .inl rfl, .inl rfl, True.intro⟩
        · have hi : i < o.length := by simpa using (List.getElem?_eq_some_iff.mp hy).1
          have ey : y = i := by
            rw [List.getElem?_range hi] at hy
            exact (Option.some.inj hy).symm
          subst ey
          have er : o[y]? = some (o.getD y []) := by rw [List.getD_eq_getElem?_getD, List.getElem?_eq_getElem hi]; rfl
          generalize hrow : o.getD y [] = row at er
          have hrz : row.length ≤ sizeLine := by
            have := (ho row (List.mem_of_getElem? er))
            exact Nat.le_of_lt (small1000 (Nat.le_trans (rise_len this.1 this.2) (by omega)))
          refine sd_seq (sd_if (tv_inN (ev_var 2) (EVP.sqT (ev_var 1))) (fun hc => sd_one (sd_ret ev_bl ?_)) (fun hc => sd_nil ?_))
          · refine retB (decide_eq_false ?_)
            rintro ⟨o', e, hO⟩
            rw [← encO_inj e] at hO
            exact hO.irr y row er (of_decide_eq_true hc)
          · have hirr : y ∉ row := of_decide_eq_false hc
            refine sd_one (sd_forW (xs := row) (f := encN) (fun _ => [.d (encO o), .d (encR row), .d (encN y), .un, .un]) (fun i => ∀ j, j < i → ∀ k, row[j]? = some k → ∀ r', o[k]? = some r' → ∀ m ∈ r', m ∈ row) [3] (fun _ k => [.d (encO o), .d (encR row), .d (encN y), .d (encN k), .un]) po rfl
              (iv_tup (ev_var 1)) ?_ (fun j hj => absurd hj (Nat.not_lt_zero _)) (fun i k hk _ => gv_name (i := 3) sc_is_order.nd) (fun i k hk hC2 => ?_) (fun ρn le hC2 => ⟨?_, ?_⟩))
            · exact ⟨.inr rfl, .inr rfl, .inr rfl, .inl rfl, .inl rfl, True.intro⟩
            · have hkl : k < o.length := mono er k (List.mem_of_getElem? hk)
              have ek : o[k]? = some o[k] := List.getElem?_eq_getElem hkl
              have hkz : o[k].length ≤ sizeLine := by
                have := (ho o[k] (List.getElem_mem hkl))
                exact Nat.le_of_lt (small1000 (Nat.le_trans (rise_len this.1 this.2) (by omega)))
              refine sd_one (sd_if (tv_sq (EVP.sqL (EVf.o (ev_lc (own := [("more", 4)]) (xs := o[k]) (f := encN) (g := encN) (pr := fun m => !decide (m ∈ row)) (ρx := fun m => [.d (encO o), .d (encR row), .d (encN y), .d (encN k), .d (encN m)]) rfl sc_is_order.nd hkz (iv_tup (ev_ixT (ev_var 0) (ev_var 3) (ix_map (f := encR) ek))) (blkOk_by (N := N_is_order) (sc := defScope s_is_order) (by decide +kernel)) (fun x _ _ _ _ _ _ => gv_name (i := 4) sc_is_order.nd)
                (fun x _ _ _ _ _ _ => tvs_one (tv_notinN (ev_var 4) (EVP.sqT (ev_var 1)))) (fun x _ _ _ _ _ _ _ => ev_var 4))))) (fun hc => sd_one (sd_ret ev_bl ?_)) (fun hc => sd_nil ⟨?_, ?_⟩))
              · refine retB (decide_eq_false ?_)
                rintro ⟨o', e, hO⟩
                rw [← encO_inj e] at hO
                have : o[k].filter (fun m => !decide (m ∈ row)) = [] := by
                  rw [List.filter_eq_nil_iff]
                  intro m hm
                  rw [decide_eq_true (hO.tr y k row o[k] er (List.mem_of_getElem? hk) ek m hm)]
                  exact Bool.false_ne_true
                rw [this] at hc
                cases hc
              · exact ⟨.inr rfl, .inr rfl, .inr rfl, .inl rfl, .inl rfl, True.intro⟩
              · intro j hj k' hk' r' hr' m hm
                rcases Nat.lt_succ_iff_lt_or_eq.mp hj with q | q
                · exact hC2 j q k' hk' r' hr' m hm
                · subst q
                  rw [hk] at hk'
                  cases hk'
                  rw [ek] at hr'
                  cases hr'
                  refine Classical.byContradiction fun q => ?_
                  have hm' : m ∈ o[k].filter (fun m => !decide (m ∈ row)) := List.mem_filter.mpr ⟨hm, by rw [decide_eq_false q]; rfl⟩
                  cases e : o[k].filter (fun m => !decide (m ∈ row)) with
                  | nil => rw [e] at hm'; cases hm'
                  | cons y l => rw [e] at hc; cases hc
            · exact Le.trans le ⟨.inr rfl, .inl rfl, .inl rfl, .inl rfl, .inl rfl, True.intro⟩
            · intro j hj r hr
              rcases Nat.lt_succ_iff_lt_or_eq.mp hj with q | q
              · exact hC j q r hr
              · subst q
                rw [er] at hr
                cases hr
                refine ⟨hirr, fun k hk r' hr' m hm => ?_⟩
                obtain ⟨jj, hjj⟩ := List.mem_iff_getElem?.mp hk
                exact hC2 jj (List.getElem?_eq_some_iff.mp hjj).1 k hjj r' hr' m hm
        · refine sd_one (sd_ret ev_bl (retB (decide_eq_true ?_)))
          rw [List.length_range] at hC
          refine ⟨o, rfl, hlen.1, hlen.2, fun r hr => ?_, fun i r hi => (hC i (List.getElem?_eq_some_iff.mp hi).1 r hi).1, fun i j r r' hi hj hr' => (hC i (List.getElem?_eq_some_iff.mp hi).1 r hi).2 j hj r' hr'⟩
          exact ho r hr
  · have hd' : isTup d = false := by cases q : isTup d <;> simp_all
    refine sd_seq (sd_if (WV.tv (wv_or (c' := true) (tv_not (tv_val (e_isTup bi (ev_var 0)))) fun q => ?_)) (fun hc => sd_one (sd_ret ev_bl ?_)) (fun hc => ?_))
    · rw [hd'] at q; cases q
    · refine retB (decide_eq_false ?_)
      rintro ⟨r, e, _⟩
      rw [e] at hd'; cases hd'
    · rw [hd'] at hc; cases hc

end
section
variable {P : Program} {w : World} {K : PySem.W.Frag} {mg : Str → Option Value} {base : Heap}
def R_check_order (c : Cl) : List PyData → Out → Prop := fun ds o => ∃ d, ds = [d] ∧ ((IsOrdD d ∧ o = .ret .none) ∨ (¬ IsOrdD d ∧ o = .exc (.ref c.io) none))
abbrev D_check_order (P : Program) (w : World) (K : PySem.W.Frag) (mg : Str → Option Value) (base : Heap) (c : Cl) : Prop := Dn P w K mg base 4 "check_order" ["order"] (R_check_order c)
open Classical in
theorem ok_check_order {c : Cl} (x : ExcC1 K mg "InvalidOrder" c.io) (h1 : D_is_order P w K mg base) (D : DefAt K mg "check_order" s_check_order) : D_check_order P w K mg base c := by
  refine dn_of D sc_check_order bd_check_order (fun ds o ⟨_, h, _⟩ => by rw [h]; rfl) ?_
  rintro f cdv A outer s H E B _ o ⟨d, rfl, ho⟩ hr po tk
  refine sd_one (sd_if (tv_not (tv_val (ev_fn h1 hr (av_one (ev_var 0)) ⟨_, rfl, rfl⟩))) (fun hc => sd_one (sd_raise rfl tk x ?_)) (fun hc => sd_nil ?_))
  · rcases ho with ⟨a, b⟩ | ⟨a, b⟩
    · rw [decide_eq_true a] at hc; cases hc
    · exact b
  · rcases ho with ⟨a, b⟩ | ⟨a, b⟩
    · exact b
    · rw [decide_eq_false a] at hc; cases hc

end
section
variable {P : Program} {w : World} {K : PySem.W.Frag} {mg : Str → Option Value} {base : Heap}
open Classical in
def R_are_weights : List PyData → Out → Prop := fun ds o => ∃ (or : List (List Nat)) (d : PyData), ds = [encO or, d] ∧ o = .ret (.bool (decide (IsWD or.length d)))
abbrev D_are_weights (P : Program) (w : World) (K : PySem.W.Frag) (mg : Str → Option Value) (base : Heap) : Prop := Dn P w K mg base 2 "are_weights" ["order", "value"] R_are_weights
open Classical in
theorem ok_are_weights (bi : BI mg) (hm : ∃ t, mg "MAX_TOTAL" = some (.int 9 t)) (h1 : D_in_range P w K mg base) (D : DefAt K mg "are_weights" s_are_weights) : D_are_weights P w K mg base := by
  obtain ⟨tM, hM⟩ := hm
  refine dn_of D sc_are_weights bd_are_weights (fun ds o ⟨_, _, h, _⟩ => by rw [h]; rfl) ?_
  rintro f cdv A outer s H E B _ _ ⟨or, d, rfl, rfl⟩ hr po tk
  by_cases hd : isTup d = true
  · obtain ⟨ds, rfl⟩ : ∃ ds, d = .tuple ds := by cases d <;> first | exact ⟨_, rfl⟩ | cases hd
    refine sd_lenT (i := 1) rfl fun hz => ?_
    refine sd_seq (sd_if (WV.tv (wv_or (tv_not (tv_val (e_isTup bi (ev_var 1)))) fun _ => wv_or1 (tv_ne (by have := hr.un; omega) (EVP.o (ev_len bi.len (EVP.sqT (ev_var 1)))) (EVP.o (ev_len bi.len (EVP.sqT (ev_var 0)))) (okD_of 0 ok_int) (okD_of 0 ok_int) (eqv_int _ _)))) (fun hc => sd_one (sd_ret ev_bl ?_)) (fun hc => sd_nil ?_))
    · refine retB (decide_eq_false ?_)
      rintro ⟨v, e, hl, _⟩
      have e := PyData.tuple.inj e
      rw [e] at hc
      simp [isTup, hl] at hc
    · have hlen : ds.length = or.length := by
        simp [isTup] at hc
        omega
      refine sd_one (sd_ret (d := .bool (((ds.filter fun x => !inR x 0 9).map fun x => x).isEmpty && decide (IsWD or.length (.tuple ds)))) (ev_and (ev_notS (EVP.sqL (EVf.o (ev_lc (own := [("one", 2)]) (xs := ds) (f := fun x => x) (g := fun x => x) (pr := fun x => !inR x 0 9) (ρx := fun x => [.d (encO or), .d (.tuple ds), .d x]) rfl sc_are_weights.nd hz (IV.id (iv_tup (ev_var 1))) (blkOk_by (N := N_are_weights) (sc := defScope s_are_weights) (by decide +kernel)) (fun x _ _ _ _ _ _ => gv_name (i := 2) sc_are_weights.nd)
          (fun x _ _ _ _ _ _ => tvs_one (tv_not (tv_val (ev_fn h1 hr (av_cons (ev_var 2) (av_cons ev_int (av_one (ev_glI hM)))) ⟨_, _, _, rfl, rfl⟩))))
          (fun x _ _ _ _ _ _ _ => ev_var 2))))) fun hc2 => ev_one ?_) ?_)
      · have hall : ∀ x ∈ ds, ∃ m : Nat, x = encN m ∧ m ≤ 9 := by
          intro x hx
          refine inR_nat'.mp ?_
          cases q : inR x 0 ((9 : Nat) : Int) with
          | true => rfl
          | false =>
            exfalso
            have hm : x ∈ ds.filter (fun x => !inR x 0 9) := List.mem_filter.mpr ⟨hx, by show (!inR x 0 9) = true; rw [show inR x 0 9 = false from q]; rfl⟩
            cases e : ds.filter (fun x => !inR x 0 9) with
            | nil => rw [e] at hm; cases hm
            | cons y l => rw [e] at hc2; cases hc2
        obtain ⟨r, rfl, hb⟩ := all_nat hall
        refine EV.to (ev_le (ev_sumTN bi rfl (ev_var 1)) (ev_glI hM)) ?_
        congr 1
        refine Bool.eq_iff_iff.mpr ?_
        rw [decide_eq_true_iff, decide_eq_true_iff]
        rw [List.length_map] at hlen
        constructor
        · exact fun h => ⟨r, rfl, hlen, by omega⟩
        · rintro ⟨v, e, _, h⟩
          rw [encR_inj e]; omega
      · refine retB ?_
        by_cases hw : IsWD or.length (.tuple ds)
        · rw [decide_eq_true hw, Bool.and_true]
          obtain ⟨v, e, hl, hs⟩ := hw
          have e := PyData.tuple.inj e
          have : ds.filter (fun x => !inR x 0 9) = [] := by
            rw [List.filter_eq_nil_iff]
            intro x hx
            rw [e] at hx
            obtain ⟨m, hm, rfl⟩ := List.mem_map.mp hx
            rw [show inR (encN m) 0 9 = true from inR_nat'.mpr ⟨m, rfl, Nat.le_trans (le_sum hm) hs⟩]
            exact Bool.false_ne_true
          rw [this]; rfl
        · rw [decide_eq_false hw, Bool.and_false]
  · have hd' : isTup d = false := by cases q : isTup d <;> simp_all
    refine sd_seq (sd_if (WV.tv (wv_or (c' := true) (tv_not (tv_val (e_isTup bi (ev_var 1)))) fun q => ?_)) (fun hc => sd_one (sd_ret ev_bl ?_)) (fun hc => ?_))
    · rw [hd'] at q; cases q
    · refine retB (decide_eq_false ?_)
      rintro ⟨r, e, _⟩
      rw [e] at hd'; cases hd'
    · rw [hd'] at hc; cases hc

end
section
variable {P : Program} {w : World} {K : PySem.W.Frag} {mg : Str → Option Value} {base : Heap}
def R_check_weights (c : Cl) : List PyData → Out → Prop := fun ds o => ∃ d v, ds = [d, v] ∧ ((¬ IsOrdD d ∧ o = .exc (.ref c.io) none) ∨ ∃ or, d = encO or ∧ IsOrd or ∧ ((IsWD or.length v ∧ o = .ret .none) ∨ (¬ IsWD or.length v ∧ o = .exc (.ref c.iw) none)))
abbrev D_check_weights (P : Program) (w : World) (K : PySem.W.Frag) (mg : Str → Option Value) (base : Heap) (c : Cl) : Prop := Dn P w K mg base 5 "check_weights" ["order", "weights"] (R_check_weights c)
open Classical in
theorem ok_check_weights {c : Cl} (x : ExcC1 K mg "InvalidWeights" c.iw) (h1 : D_check_order P w K mg base c) (h2 : D_are_weights P w K mg base) (D : DefAt K mg "check_weights" s_check_weights) : D_check_weights P w K mg base c := by
  refine dn_of D sc_check_weights bd_check_weights (fun ds o ⟨_, _, h, _⟩ => by rw [h]; rfl) ?_
  rintro f cdv A outer s H E B _ o ⟨d, v, rfl, ho⟩ hr po tk
  rcases ho with ⟨ho, rfl⟩ | ⟨or, rfl, hor, ho⟩
  · exact sd_seq (sd_exprX (evx_fn tk h1 hr (av_one (ev_var 0)) ⟨_, rfl, .inr ⟨ho, rfl⟩⟩) (fun d q => by cases q) (fun c l q => q))
  · refine sd_seq (sd_expr (ev_fn h1 hr (av_one (ev_var 0)) ⟨_, rfl, .inl ⟨⟨or, rfl, hor⟩, rfl⟩⟩) ?_)
    refine sd_one (sd_if (tv_not (tv_val (ev_fn h2 (hr.mono (by decide)) (av_cons (ev_var 0) (av_one (ev_var 1))) ⟨_, _, rfl, rfl⟩))) (fun hc => sd_one (sd_raise rfl tk x ?_)) (fun hc => sd_nil ?_))
    · rcases ho with ⟨a, b⟩ | ⟨a, b⟩
      · rw [decide_eq_true a] at hc; cases hc
      · exact b
    · rcases ho with ⟨a, b⟩ | ⟨a, b⟩
      · exact b
      · rw [decide_eq_false a] at hc; cases hc

end
section
variable {P : Program} {w : World} {K : PySem.W.Frag} {mg : Str → Option Value} {base : Heap}
/-- two weights with the same sum -/
def IsPr (n : Nat) (v u : PyData) : Prop := ∃ a b, v = encR a ∧ u = encR b ∧ IsW n a ∧ IsW n b ∧ b.sum = a.sum
def R_check_pair (c : Cl) : List PyData → Out → Prop := fun ds o => ∃ d v u, ds = [d, v, u] ∧ ((¬ IsOrdD d ∧ o = .exc (.ref c.io) none) ∨ ∃ or, d = encO or ∧ IsOrd or ∧ ((IsPr or.length v u ∧ o = .ret .none) ∨ (¬ IsPr or.length v u ∧ o = .exc (.ref c.iw) none)))
abbrev D_check_pair (P : Program) (w : World) (K : PySem.W.Frag) (mg : Str → Option Value) (base : Heap) (c : Cl) : Prop := Dn P w K mg base 6 "check_pair" ["order", "one", "other"] (R_check_pair c)
open Classical in
theorem ok_check_pair (bi : BI mg) {c : Cl} (x : ExcC1 K mg "InvalidWeights" c.iw) (h1 : D_check_weights P w K mg base c) (h2 : D_are_weights P w K mg base) (D : DefAt K mg "check_pair" s_check_pair) : D_check_pair P w K mg base c := by
  refine dn_of D sc_check_pair bd_check_pair (fun ds o ⟨_, _, _, h, _⟩ => by rw [h]; rfl) ?_
  rintro f cdv A outer s H E B _ o ⟨d, v, u, rfl, ho⟩ hr po tk
  have ht : ∀ {X : Cx} {ex : DEnv → Value → Option PyData → Prop}, True := True.intro
  rcases ho with ⟨ho, rfl⟩ | ⟨or, rfl, hor, ho⟩
  · exact sd_seq (sd_exprX (evx_fn tk h1 hr (av_cons (ev_var 0) (av_one (ev_var 1))) ⟨_, _, rfl, .inl ⟨ho, rfl⟩⟩) (fun d q => by cases q) (fun c l q => q))
  · by_cases hv : IsWD or.length v
    · refine sd_seq (sd_expr (ev_fn h1 hr (av_cons (ev_var 0) (av_one (ev_var 1))) ⟨_, _, rfl, .inr ⟨or, rfl, hor, .inl ⟨hv, rfl⟩⟩⟩) ?_)
      obtain ⟨a, rfl, ha⟩ := hv
      refine sd_one (sd_if (c := !decide (IsPr or.length (encR a) u)) (TV.to (WV.tv (wv_or (c' := !decide (IsPr or.length (encR a) u)) (tv_not (tv_val (ev_fn h2 (hr.mono (by decide)) (av_cons (ev_var 0) (av_one (ev_var 2))) ⟨_, _, rfl, rfl⟩))) fun q => ?_)) ?_) (fun hc => sd_one (sd_raise rfl tk x ?_)) (fun hc => sd_nil ?_))
      · have hu : IsWD or.length u := by
          refine Classical.byContradiction fun z => ?_
          rw [decide_eq_false z] at q
          cases q
        obtain ⟨b, rfl, hb⟩ := hu
        refine wv_or1 (TV.to (tv_ne (by have := hr.un; omega) (EVP.o (ev_sumTN bi rfl (ev_var 2))) (EVP.o (ev_sumTN bi rfl (ev_var 1))) (okD_of 0 ok_int) (okD_of 0 ok_int) (eqv_encN _ _)) ?_)
        congr 1
        refine Bool.eq_iff_iff.mpr ?_
        rw [decide_eq_true_iff, decide_eq_true_iff]
        constructor
        · exact fun e => ⟨a, b, rfl, rfl, ha, hb, e⟩
        · rintro ⟨a', b', e1, e2, _, _, e3⟩
          rw [encR_inj e1, encR_inj e2]; exact e3
      · by_cases hu : IsWD or.length u
        · rw [decide_eq_true hu]; rfl
        · rw [decide_eq_false hu]
          have : ¬ IsPr or.length (encR a) u := by
            rintro ⟨a', b', e1, e2, _, h, _⟩
            exact hu ⟨b', e2, h⟩
          rw [decide_eq_false this]; rfl
      · rcases ho with ⟨a, b⟩ | ⟨a, b⟩
        · rw [decide_eq_true a] at hc; cases hc
        · exact b
      · rcases ho with ⟨a, b⟩ | ⟨a, b⟩
        · exact b
        · rw [decide_eq_false a] at hc; cases hc
    · have : ¬ IsPr or.length v u := by
        rintro ⟨a', b', e1, e2, h, _, _⟩
        exact hv ⟨a', e1, h⟩
      rcases ho with ⟨a, b⟩ | ⟨a, rfl⟩
      · exact absurd a this
      · exact sd_seq (sd_exprX (evx_fn tk h1 hr (av_cons (ev_var 0) (av_one (ev_var 1))) ⟨_, _, rfl, .inr ⟨or, rfl, hor, .inr ⟨hv, rfl⟩⟩⟩) (fun d q => by cases q) (fun c l q => q))
/-- a def that asks check_pair first -/
def PairR (c : Cl) (k : List (List Nat) → List Nat → List Nat → Out → Prop) (d v u : PyData) (o : Out) : Prop := (¬ IsOrdD d ∧ o = .exc (.ref c.io) none) ∨ ∃ or, d = encO or ∧ IsOrd or ∧ ((¬ IsPr or.length v u ∧ o = .exc (.ref c.iw) none) ∨ ∃ a b, v = encR a ∧ u = encR b ∧ IsW or.length a ∧ IsW or.length b ∧ b.sum = a.sum ∧ k or a b o)
theorem sd_pair {X : Cx} {B : Bs} {ρ : DEnv} {E : DE} {c : Cl} {k : List (List Nat) → List Nat → List Nat → Out → Prop} {d v u : PyData} {o : Out} {e : Expr} {es : List Expr} {p pos pos' : Pos} {rest : List Stmt} (h : Dn X.prog X.w X.K X.mg X.base 6 "check_pair" ["order", "one", "other"] (R_check_pair c)) (hr : Room 6 X.A) (tk : TakesD X B E.ex) (hx : ∀ r cl l, o = .exc cl l → E.ex r cl l)
    (hp : PairR c k d v u o) (ha : AV X B ρ (e :: es) [d, v, u]) (next : ∀ or a b, d = encO or → v = encR a → u = encR b → IsOrd or → IsW or.length a → IsW or.length b → b.sum = a.sum → k or a b o → SDs X B ρ rest E)
    (hg : Gl X "check_pair" := by rfl) (he : starEach (e :: es) X.env = (false, eval e X.env) :: starEach es X.env := by rfl) (hpl : (backTo pos (starEach es X.env)).any (·.1) = false := by rfl) (hs : swapsWith (.Call (.Name "check_pair" p) (e :: es) [] pos) none pos'.line X.env = pure false := by rfl) :
    SDs X B ρ (.Expr (.Call (.Name "check_pair" p) (e :: es) [] pos) pos' :: rest) E := by
  rcases hp with ⟨ho, rfl⟩ | ⟨or, rfl, hor, ho⟩
  · exact sd_seq (sd_exprX (evx_fn tk h hr ha ⟨_, _, _, rfl, .inl ⟨ho, rfl⟩⟩ hg (by decide) he hpl) (fun d q => by cases q) (fun cl l q => hx _ cl l q) hs)
  · rcases ho with ⟨hn, rfl⟩ | ⟨a, b, rfl, rfl, h1, h2, h3, hk⟩
    · exact sd_seq (sd_exprX (evx_fn tk h hr ha ⟨_, _, _, rfl, .inr ⟨or, rfl, hor, .inr ⟨hn, rfl⟩⟩⟩ hg (by decide) he hpl) (fun d q => by cases q) (fun cl l q => hx _ cl l q) hs)
    · exact sd_seq (sd_expr (ev_fn h hr ha ⟨_, _, _, rfl, .inr ⟨or, rfl, hor, .inl ⟨⟨a, b, rfl, rfl, h1, h2, h3⟩, rfl⟩⟩⟩ hg (by decide) he hpl) (next or a b rfl rfl rfl hor h1 h2 h3 hk) hs)

end
section
variable {P : Program} {w : World} {K : PySem.W.Frag} {mg : Str → Option Value} {base : Heap}
def R_check_point (c : Cl) : List PyData → Out → Prop := fun ds o => ∃ (or : List (List Nat)) (d : PyData), ds = [encO or, d] ∧ ((inR d 0 ((or.length : Int) - 1) = true ∧ o = .ret .none) ∨ (inR d 0 ((or.length : Int) - 1) = false ∧ o = .exc (.ref c.ip) none))
abbrev D_check_point (P : Program) (w : World) (K : PySem.W.Frag) (mg : Str → Option Value) (base : Heap) (c : Cl) : Prop := Dn P w K mg base 2 "check_point" ["order", "point"] (R_check_point c)
theorem ok_check_point (bi : BI mg) {c : Cl} (x : ExcC1 K mg "InvalidPoint" c.ip) (h1 : D_in_range P w K mg base) (D : DefAt K mg "check_point" s_check_point) : D_check_point P w K mg base c := by
  refine dn_of D sc_check_point bd_check_point (fun ds o ⟨_, _, h, _⟩ => by rw [h]; rfl) ?_
  rintro f cdv A outer s H E B _ o ⟨or, d, rfl, ho⟩ hr po tk
  refine sd_one (sd_if (tv_not (tv_val (ev_fn h1 hr (av_cons (ev_var 1) (av_cons ev_int (av_one (ev_sub (EV.to (ev_len bi.len (EVP.sqT (ev_var 0))) (by rw [List.length_map])) ev_int)))) ⟨_, _, _, rfl, rfl⟩))) (fun hc => sd_one (sd_raise rfl tk x ?_)) (fun hc => sd_nil ?_))
  · rcases ho with ⟨a, b⟩ | ⟨a, b⟩
    · rw [a] at hc; cases hc
    · exact b
  · rcases ho with ⟨a, b⟩ | ⟨a, b⟩
    · exact b
    · rw [a] at hc; cases hc

end
section
variable {P : Program} {w : World} {K : PySem.W.Frag} {mg : Str → Option Value} {base : Heap}
def R_is_closed_set : List PyData → Out → Prop := fun ds o => ∃ (or : List (List Nat)) (s : List Nat), ds = [encO or, encR s] ∧ IsOrd or ∧ (∀ p ∈ s, p < or.length) ∧ o = .ret (.bool (clo or s))
abbrev D_is_closed_set (P : Program) (w : World) (K : PySem.W.Frag) (mg : Str → Option Value) (base : Heap) : Prop := Dn P w K mg base 1 "is_closed_set" ["order", "some"] R_is_closed_set
theorem ok_is_closed_set (D : DefAt K mg "is_closed_set" s_is_closed_set) : D_is_closed_set P w K mg base := by
  refine dn_of D sc_is_closed_set bd_is_closed_set (fun ds o ⟨_, _, h, _⟩ => by rw [h]; rfl) ?_
  rintro f cdv A outer st H E B _ _ ⟨or, s, rfl, hor, hs, rfl⟩ hr po tk
  refine sd_seq (sd_forW (xs := s) (f := encN) (fun _ => [.d (encO or), .d (encR s), .un, .un]) (fun i => ∀ j, j < i → ∀ p, s[j]? = some p → ((above or p).all fun m => decide (m ∈ s)) = true) [2] (fun _ p => [.d (encO or), .d (encR s), .d (encN p), .un]) po rfl (iv_tup (ev_var 1))
    ⟨.inr rfl, .inr rfl, .inl rfl, .inl rfl, True.intro⟩ (fun j hj => absurd hj (Nat.not_lt_zero _)) (fun i p hp _ => gv_name (i := 2) sc_is_closed_set.nd) (fun i p hp hC => ?_) (fun ρn le hC => ?_))
  · have hpl := hs p (List.mem_of_getElem? hp)
    refine sd_one (sd_if (tv_sq (EVP.sqL (EVf.o (ev_lc (own := [("more", 3)]) (xs := above or p) (f := encN) (g := encN) (pr := fun m => !decide (m ∈ s)) (ρx := fun m => [.d (encO or), .d (encR s), .d (encN p), .d (encN m)]) rfl sc_is_closed_set.nd (z6 (hor.rowz hpl)) (iv_tup (ev_ixT (ev_var 0) (ev_var 2) (ix_map (f := encR) (hor.row hpl)))) (blkOk_by (N := N_is_closed_set) (sc := defScope s_is_closed_set) (by decide +kernel)) (fun x _ _ _ _ _ _ => gv_name (i := 3) sc_is_closed_set.nd)
      (fun x _ _ _ _ _ _ => tvs_one (tv_notinN (ev_var 3) (EVP.sqT (ev_var 1)))) (fun x _ _ _ _ _ _ _ => ev_var 3))))) (fun hc => sd_one (sd_ret ev_bl ?_)) (fun hc => sd_nil ⟨⟨.inr rfl, .inr rfl, .inl rfl, .inl rfl, True.intro⟩, ?_⟩))
    · refine retB (Bool.eq_false_iff.mpr fun q => ?_)
      have : (above or p).filter (fun m => !decide (m ∈ s)) = [] := by
        rw [List.filter_eq_nil_iff]
        intro m hm
        rw [decide_eq_true (clo_iff.mp q p (List.mem_of_getElem? hp) m hm)]
        exact Bool.false_ne_true
      rw [this] at hc
      cases hc
    · intro j hj p' hp'
      rcases Nat.lt_succ_iff_lt_or_eq.mp hj with q | q
      · exact hC j q p' hp'
      · subst q
        rw [hp] at hp'
        cases hp'
        rw [List.all_eq_true]
        intro m hm
        refine Classical.byContradiction fun q => ?_
        have hm' : m ∈ (above or p).filter (fun m => !decide (m ∈ s)) := List.mem_filter.mpr ⟨hm, by simpa using q⟩
        cases e : (above or p).filter (fun m => !decide (m ∈ s)) with
        | nil => rw [e] at hm'; cases hm'
        | cons y l => rw [e] at hc; cases hc
  · refine sd_one (sd_ret ev_bl (retB ?_))
    unfold clo
    rw [List.all_eq_true]
    intro p hp
    obtain ⟨j, hj⟩ := List.mem_iff_getElem?.mp hp
    exact hC j (List.getElem?_eq_some_iff.mp hj).1 p hj

end
section
variable {P : Program} {w : World} {K : PySem.W.Frag} {mg : Str → Option Value} {base : Heap}
def R_every_closed : List PyData → Out → Prop := fun ds o => ∃ or : List (List Nat), ds = [encO or] ∧ IsOrd or ∧ o = .ret (.list ((closedSets or).map encR))
abbrev D_every_closed (P : Program) (w : World) (K : PySem.W.Frag) (mg : Str → Option Value) (base : Heap) : Prop := Dn P w K mg base 2 "every_closed" ["order"] R_every_closed
theorem ok_every_closed (bi : BI mg) (h1 : D_is_closed_set P w K mg base) (D : DefAt K mg "every_closed" s_every_closed) : D_every_closed P w K mg base := by
  refine dn_of D sc_every_closed bd_every_closed (fun ds o ⟨_, h, _⟩ => by rw [h]; rfl) ?_
  rintro f cdv A outer st H E B _ _ ⟨or, rfl, hor, rfl⟩ hr po tk
  have h6 := hor.most
  have hsz : ∀ i, i ≤ or.length → (subs i).length ≤ 64 := fun i hi => by
    rw [subs_len]
    exact Nat.le_trans (Nat.pow_le_pow_right (by decide) (Nat.le_trans hi h6)) (by decide)
  refine sd_seq (sd_set (i := 1) sc_every_closed.nd (EVf.ev (ev_lst (av_one (ev_tup av_nil)))) ?_)
  refine sd_seq (sd_forW (xs := List.range or.length) (f := encN) (fun i => [.d (encO or), .d (.list ((subs i).map encR)), .un, .un]) (fun _ => True) [2] (fun i p => [.d (encO or), .d (.list ((subs i).map encR)), .d (encN p), .un]) po rfl (iv_rangeN bi (EV.to (ev_len bi.len (EVP.sqT (ev_var 0))) (by rw [List.length_map])) (by omega))
    ⟨.inr rfl, .inr rfl, .inl rfl, .inl rfl, True.intro⟩ True.intro (fun i p hp _ => gv_name (i := 2) sc_every_closed.nd) (fun i p hp _ => ?_) (fun ρn le _ => sd_weak le ?_))
  · have hi : i < or.length := by simpa using (List.getElem?_eq_some_iff.mp hp).1
    have ey : p = i := by
      rw [List.getElem?_range hi] at hp
      exact (Option.some.inj hp).symm
    subst ey
    have z := hsz p (by omega)
    refine sd_one (sd_set (i := 1) sc_every_closed.nd (d := .list ((subs (p + 1)).map encR)) (EV.to (EVf.ev (ev_cat (EVP.o (ev_var 1)) (EVf.o (ev_lc (own := [("some", 3)]) (xs := subs p) (f := encR) (g := fun s => encR (s ++ [p])) (pr := fun _ => true) (ρx := fun s => [.d (encO or), .d (.list ((subs p).map encR)), .d (encN p), .d (encR s)]) rfl sc_every_closed.nd (z1000 (by omega)) (iv_list (ev_var 1)) (blkOk_by (N := N_every_closed) (sc := defScope s_every_closed) (by decide +kernel)) (fun x _ _ _ _ _ _ => gv_name (i := 3) sc_every_closed.nd)
      (fun x _ _ _ _ _ _ => tvs_nil) (fun x hx _ _ _ _ _ _ => EV.to (ev_catT (ev_var 3) (ev_tup (av_one (ev_var 2))) (z1000 ?_)) ?_))) ?_)) ?_) ⟨⟨.inr rfl, .inr rfl, .inl rfl, .inl rfl, True.intro⟩, True.intro⟩)
    · have := (mem_subs p x).mp hx
      have := rise_len this.1 this.2
      rw [List.length_map]
      show x.length + 1 ≤ 1000
      omega
    · show PyData.tuple _ = PyData.tuple _
      rw [List.map_append]; rfl
    · rw [List.length_map, List.length_map, filt_true]
      exact z1000 (by omega)
    · show PyData.list _ = PyData.list _
      rw [filt_true]
      have e : (subs (p + 1)).map encR = (subs p).map encR ++ (subs p).map (fun s => encR (s ++ [p])) := by
        show (subs p ++ (subs p).map (· ++ [p])).map encR = _
        rw [List.map_append, List.map_map]; rfl
      rw [e]
  · rw [List.length_range]
    refine sd_one (sd_ret (d := .list ((closedSets or).map encR)) (EV.to (EVf.ev (ev_sortedL (xs := ((subs or.length).filter (clo or)).map castL) (by have := hr.un; omega) bi.sorted bt_sorted (EVo.to (EVf.o (ev_lc (own := [("some", 3)]) (xs := subs or.length) (f := encR) (g := encR) (pr := clo or) (ρx := fun s => [.d (encO or), .d (.list ((subs or.length).map encR)), .un, .d (encR s)]) rfl sc_every_closed.nd (z1000 (Nat.le_trans (hsz _ (Nat.le_refl _)) (by decide))) (iv_list (ev_var 1)) (blkOk_by (N := N_every_closed) (sc := defScope s_every_closed) (by decide +kernel)) (fun x _ _ _ _ _ _ => gv_name (i := 3) sc_every_closed.nd)
      (fun x hx _ _ _ _ _ => tvs_one (tv_val (ev_fn h1 hr (av_cons (ev_var 0) (av_one (ev_var 3))) ⟨_, _, rfl, hor, ((mem_subs _ x).mp hx).2, rfl⟩))) (fun x _ _ _ _ _ _ _ => ev_var 3))) ?_))) ?_) rfl)
    · rw [mapI_cast]
    · show PyData.list _ = PyData.list _
      rw [sortN_cast, mapI_cast]; rfl

end
section
variable {P : Program} {w : World} {K : PySem.W.Frag} {mg : Str → Option Value} {base : Heap}
def R_held : List PyData → Out → Prop := fun ds o => ∃ v s : List Nat, ds = [encR v, encR s] ∧ (∀ p ∈ s, p < v.length) ∧ s.length ≤ 6 ∧ o = .ret (encN (held v s))
abbrev D_held (P : Program) (w : World) (K : PySem.W.Frag) (mg : Str → Option Value) (base : Heap) : Prop := Dn P w K mg base 1 "held" ["weights", "some"] R_held
theorem ok_held (bi : BI mg) (D : DefAt K mg "held" s_held) : D_held P w K mg base := by
  refine dn_of D sc_held bd_held (fun ds o ⟨_, _, h, _⟩ => by rw [h]; rfl) ?_
  rintro f cdv A outer st H E B _ _ ⟨v, s, rfl, hs, hz, rfl⟩ hr po tk
  refine sd_one (sd_ret (ev_sumLN (r := s.map fun p => v.getD p 0) bi rfl (EVo.to (EVf.o (ev_lc (own := [("point", 2)]) (xs := s) (f := encN) (g := fun p => encN (v.getD p 0)) (pr := fun _ => true) rfl sc_held.nd (z6 hz) (iv_tup (ev_var 1)) (blkOk_by (N := N_held) (sc := defScope s_held) (by decide +kernel)) (fun _ _ _ _ _ _ _ => gv_name (i := 2) sc_held.nd) (fun _ _ _ _ _ _ _ => tvs_nil)
    (fun p hp _ _ _ _ _ _ => ev_ixT (ev_var 0) (ev_var 2) (ix_map (f := encN) ?_)))) ?_)) rfl)
  · rw [List.getD_eq_getElem?_getD, List.getElem?_eq_getElem (hs p hp)]; rfl
  · rw [filt_true, List.map_map]; rfl

end
section
variable {P : Program} {w : World} {K : PySem.W.Frag} {mg : Str → Option Value} {base : Heap}
def R_paper_of : List PyData → Out → Prop := fun ds o => ∃ (or : List (List Nat)) (a b : List Nat), ds = [encO or, encR a, encR b] ∧ IsOrd or ∧ a.length = or.length ∧ b.length = or.length ∧ o = .ret (encP (paperOf or a b))
abbrev D_paper_of (P : Program) (w : World) (K : PySem.W.Frag) (mg : Str → Option Value) (base : Heap) : Prop := Dn P w K mg base 3 "paper_of" ["order", "one", "other"] R_paper_of
theorem ok_paper_of (bi : BI mg) (h1 : D_every_closed P w K mg base) (h2 : D_held P w K mg base) (D : DefAt K mg "paper_of" s_paper_of) : D_paper_of P w K mg base := by
  refine dn_of D sc_paper_of bd_paper_of (fun ds o ⟨_, _, _, h, _⟩ => by rw [h]; rfl) ?_
  rintro f cdv A outer st H E B _ _ ⟨or, a, b, rfl, hor, ha, hb, rfl⟩ hr po tk
  have hm := hor.most
  refine sd_seq (sd_forW (xs := closedSets or) (f := encR) (fun _ => [.d (encO or), .d (encR a), .d (encR b), .un]) (fun i => ∀ j, j < i → ∀ z, (closedSets or)[j]? = some z → decide (held b z < held a z) = false) [3] (fun _ s => [.d (encO or), .d (encR a), .d (encR b), .d (encR s)]) po rfl (iv_list (ev_fn h1 hr (av_one (ev_var 0)) ⟨_, rfl, hor, rfl⟩))
    ⟨.inr rfl, .inr rfl, .inr rfl, .inl rfl, True.intro⟩ (fun j hj => absurd hj (Nat.not_lt_zero _)) (fun i s hs _ => gv_name (i := 3) sc_paper_of.nd) (fun i s hs hC => ?_) (fun ρn le hC => ?_))
  · have hc := mem_closed.mp (List.mem_of_getElem? hs)
    have hl : s.length ≤ 6 := Nat.le_trans (rise_len hc.1.1 hc.1.2) hm
    refine sd_one (sd_if (TV.to (tv_gt (ev_fn h2 (hr.mono (by decide)) (av_cons (ev_var 1) (av_one (ev_var 3))) ⟨_, _, rfl, fun p hp => by rw [ha]; exact hc.1.2 p hp, hl, rfl⟩) (ev_fn h2 (hr.mono (by decide)) (av_cons (ev_var 2) (av_one (ev_var 3))) ⟨_, _, rfl, fun p hp => by rw [hb]; exact hc.1.2 p hp, hl, rfl⟩)) (c' := decide (held b s < held a s)) (decide_eq_decide.mpr Int.ofNat_lt)) (fun q => sd_one (sd_ret (ev_var 3) ?_)) fun q => sd_nil ⟨⟨.inr rfl, .inr rfl, .inr rfl, .inl rfl, True.intro⟩, fun j hj z hz => ?_⟩)
    · unfold paperOf
      rw [find_first hC hs q]; rfl
    · rcases Nat.lt_succ_iff_lt_or_eq.mp hj with y | y
      · exact hC j y z hz
      · subst y
        rw [hs] at hz
        cases hz
        exact q
  · refine sd_one (sd_ret ev_non ?_)
    unfold paperOf
    rw [find_no hC]; rfl

end
section
variable {P : Program} {w : World} {K : PySem.W.Frag} {mg : Str → Option Value} {base : Heap}
def R_can_reach (c : Cl) : List PyData → Out → Prop := fun ds o => ∃ d v u, ds = [d, v, u] ∧ PairR c (fun or a b o => o = .ret (.bool (paperOf or a b).isNone)) d v u o
abbrev D_can_reach (P : Program) (w : World) (K : PySem.W.Frag) (mg : Str → Option Value) (base : Heap) (c : Cl) : Prop := Dn P w K mg base 7 "can_reach" ["order", "one", "other"] (R_can_reach c)
theorem isNone_encP (q : Option (List Nat)) : isNone (encP q) = q.isNone := by cases q <;> rfl
theorem ok_can_reach {c : Cl} (h1 : D_check_pair P w K mg base c) (h2 : D_paper_of P w K mg base) (D : DefAt K mg "can_reach" s_can_reach) : D_can_reach P w K mg base c := by
  refine dn_of D sc_can_reach bd_can_reach (fun ds o ⟨_, _, _, h, _⟩ => by rw [h]; rfl) ?_
  rintro f cdv A outer st H E B _ o ⟨d, v, u, rfl, ho⟩ hr po tk
  refine sd_pair h1 hr tk (fun _ _ _ q => q) ho (av_cons (ev_var 0) (av_cons (ev_var 1) (av_one (ev_var 2)))) ?_
  rintro or a b rfl rfl rfl hor ha hb hs rfl
  exact sd_one (sd_ret (ev_isN (ev_fn h2 (hr.mono (by decide)) (av_cons (ev_var 0) (av_cons (ev_var 1) (av_one (ev_var 2)))) ⟨_, _, _, rfl, hor, ha.1, hb.1, rfl⟩)) (retB (isNone_encP _).symm))

end
section
variable {P : Program} {w : World} {K : PySem.W.Frag} {mg : Str → Option Value} {base : Heap}
def R_closed_sets (c : Cl) : List PyData → Out → Prop := fun ds o => ∃ d, ds = [d] ∧ ¬ IsOrdD d ∧ o = .exc (.ref c.io) none
abbrev D_closed_sets (P : Program) (w : World) (K : PySem.W.Frag) (mg : Str → Option Value) (base : Heap) (c : Cl) : Prop := Dn P w K mg base 5 "closed_sets" ["order"] (R_closed_sets c)
theorem ok_closed_sets {c : Cl} (h1 : D_check_order P w K mg base c) (D : DefAt K mg "closed_sets" s_closed_sets) : D_closed_sets P w K mg base c := by
  refine dn_of D sc_closed_sets bd_closed_sets (fun ds o ⟨_, h, _⟩ => by rw [h]; rfl) ?_
  rintro f cdv A outer st H E B _ o ⟨d, rfl, ho, rfl⟩ hr po tk
  exact sd_seq (sd_exprX (evx_fn tk h1 hr (av_one (ev_var 0)) ⟨_, rfl, .inr ⟨ho, rfl⟩⟩) (fun d q => by cases q) (fun c l q => q))

end
section
variable {P : Program} {w : World} {K : PySem.W.Frag} {mg : Str → Option Value} {base : Heap}
def R_neighbors_above (c : Cl) : List PyData → Out → Prop := fun ds o => ∃ (d p : PyData), ds = [d, p] ∧ ((¬ IsOrdD d ∧ o = .exc (.ref c.io) none) ∨ ∃ or, d = encO or ∧ IsOrd or ∧ inR p 0 ((or.length : Int) - 1) = false ∧ o = .exc (.ref c.ip) none)
abbrev D_neighbors_above (P : Program) (w : World) (K : PySem.W.Frag) (mg : Str → Option Value) (base : Heap) (c : Cl) : Prop := Dn P w K mg base 5 "neighbors_above" ["order", "point"] (R_neighbors_above c)
theorem ok_neighbors_above {c : Cl} (h1 : D_check_order P w K mg base c) (h2 : D_check_point P w K mg base c) (D : DefAt K mg "neighbors_above" s_neighbors_above) : D_neighbors_above P w K mg base c := by
  refine dn_of D sc_neighbors_above bd_neighbors_above (fun ds o ⟨_, _, h, _⟩ => by rw [h]; rfl) ?_
  rintro f cdv A outer st H E B _ o ⟨d, p, rfl, ho⟩ hr po tk
  rcases ho with ⟨ho, rfl⟩ | ⟨or, rfl, hor, hp, rfl⟩
  · exact sd_seq (sd_exprX (evx_fn tk h1 hr (av_one (ev_var 0)) ⟨_, rfl, .inr ⟨ho, rfl⟩⟩) (fun d q => by cases q) (fun c l q => q))
  · refine sd_seq (sd_expr (ev_fn h1 hr (av_one (ev_var 0)) ⟨_, rfl, .inl ⟨⟨or, rfl, hor⟩, rfl⟩⟩) ?_)
    exact sd_seq (sd_exprX (evx_fn tk h2 (hr.mono (by decide)) (av_cons (ev_var 0) (av_one (ev_var 1))) ⟨_, _, rfl, .inr ⟨hp, rfl⟩⟩) (fun d q => by cases q) (fun c l q => q))

end
section
variable {P : Program} {w : World} {K : PySem.W.Frag} {mg : Str → Option Value} {base : Heap}
def R_check_answers (c : Cl) : List PyData → Out → Prop := fun ds o => ∃ d t an, ds = [d, t, an] ∧ AnsR c (fun _ _ _ o => o = .ret .none) d t an o
abbrev D_check_answers (P : Program) (w : World) (K : PySem.W.Frag) (mg : Str → Option Value) (base : Heap) (c : Cl) : Prop := Dn P w K mg base 5 "check_answers" ["order", "total", "answers"] (R_check_answers c)
open Classical in
theorem ok_check_answers (bi : BI mg) {c : Cl} (x1 : ExcC1 K mg "InvalidWeights" c.iw) (x2 : ExcC1 K mg "InvalidAnswers" c.ia) (h1 : D_check_order P w K mg base c) (h2 : D_in_range P w K mg base) (h3 : D_is_rising P w K mg base) (h4 : D_is_closed_set P w K mg base) (D : DefAt K mg "check_answers" s_check_answers) : D_check_answers P w K mg base c := by
  refine dn_of D sc_check_answers bd_check_answers (fun ds o ⟨_, _, _, h, _⟩ => by rw [h]; rfl) ?_
  rintro f cdv A outer st H E B _ o ⟨d, t, an, rfl, ho⟩ hr po tk
  rcases ho with ⟨hd, rfl⟩ | ⟨or, rfl, hor, ho⟩
  · exact sd_seq (sd_exprX (evx_fn tk h1 hr (av_one (ev_var 0)) ⟨_, rfl, .inr ⟨hd, rfl⟩⟩) (fun d q => by cases q) (fun c l q => q))
  refine sd_seq (sd_expr (ev_fn h1 (hr.mono (by decide)) (av_one (ev_var 0)) ⟨_, rfl, .inl ⟨⟨or, rfl, hor⟩, rfl⟩⟩) ?_)
  rcases ho with ⟨ht, rfl⟩ | ⟨n, rfl, hn, ho⟩
  · exact sd_seq (sd_if (TV.to (tv_not (tv_val (ev_fn h2 (hr.mono (by decide)) (av_cons (ev_var 1) (av_cons ev_int (av_one ev_int))) ⟨_, _, _, rfl, rfl⟩))) (c' := true) (by rw [ht]; rfl)) (fun _ => sd_one (sd_raise rfl tk x1 rfl)) fun q => by cases q)
  have hin : inR (encN n) 0 4 = true := inR_nat'.mpr ⟨n, rfl, hn⟩
  refine sd_seq (sd_if (TV.to (tv_not (tv_val (ev_fn h2 (hr.mono (by decide)) (av_cons (ev_var 1) (av_cons ev_int (av_one ev_int))) ⟨_, _, _, rfl, rfl⟩))) (c' := false) (by rw [hin]; rfl)) (fun q => by cases q) fun _ => sd_nil ?_)
  have bad : ¬ AnsOk or an → o = .exc (.ref c.ia) none := fun hb => by
    rcases ho with ⟨_, e⟩ | ⟨l, e, hl, _⟩
    · exact e
    · exact absurd ⟨l, e, hl⟩ hb
  have good : AnsOk or an → o = .ret .none := fun hg => by
    rcases ho with ⟨hb, _⟩ | ⟨l, e, hl, e2⟩
    · exact absurd hg hb
    · exact e2
  by_cases hT : isTup an = true
  case neg =>
    have hT' : isTup an = false := by simpa using hT
    refine sd_seq (sd_if (TV.to (tv_not (tv_val (e_isTup bi (ev_var 2)))) (c' := true) (by rw [hT']; rfl)) (fun _ => sd_one (sd_raise rfl tk x2 (bad ?_))) fun q => by cases q)
    rintro ⟨l, e, _⟩
    rw [e] at hT'
    cases hT'
  obtain ⟨ds, rfl⟩ : ∃ ds, an = .tuple ds := by cases an <;> first | exact ⟨_, rfl⟩ | cases hT
  refine sd_seq (sd_if (TV.to (tv_not (tv_val (e_isTup bi (ev_var 2)))) (c' := false) rfl) (fun q => by cases q) fun _ => sd_nil ?_)
  refine sd_one (sd_forW (xs := ds) (f := fun x => x) (fun _ => [.d (encO or), .d (encN n), .d (.tuple ds), .un]) (fun i => ∀ j, j < i → ∀ z, ds[j]? = some z → AnsD1 or z) [3] (fun _ x => [.d (encO or), .d (encN n), .d (.tuple ds), .d x]) po rfl (IV.id (iv_tup (ev_var 2))) ⟨.inr rfl, .inr rfl, .inr rfl, .inl rfl, True.intro⟩ (fun j hj => absurd hj (Nat.not_lt_zero _)) (fun i x _ _ => (gv_name (i := 3) sc_check_answers.nd)) (fun i x hx hC => ?_) (fun ρn le hC => good (ans_iff.mpr fun x hx => ?_)))
  · have hxm := List.mem_of_getElem? hx
    have bad1 : ¬ AnsD1 or x → o = .exc (.ref c.ia) none := fun hb => bad fun z => hb (ans_iff.mp z x hxm)
    by_cases ht : isTup x = true
    case neg =>
      have ht' : isTup x = false := by simpa using ht
      refine sd_seq (sd_if (TV.to (WV.tv (wv_or (c' := true) (tv_not (tv_val (e_isTup bi (ev_var 3)))) fun z => by rw [ht'] at z; cases z)) (c' := true) (by rw [ht']; rfl)) (fun q => sd_one (sd_raise rfl tk x2 (bad1 ?_))) fun q => by cases q)
      rintro ⟨y, e, _⟩
      rw [e] at ht'
      cases ht'
    obtain ⟨es, rfl⟩ : ∃ es, x = .tuple es := by cases x <;> first | exact ⟨_, rfl⟩ | cases ht
    by_cases hl : es.length = 2
    case neg =>
      refine sd_seq (sd_if (TV.to (WV.tv (wv_or (tv_not (tv_val (e_isTup bi (ev_var 3)))) fun _ => wv_or (c' := true) (tv_ne (un65 hr) (EVP.o (ev_len bi.len (EVP.sqT (ev_var 3)))) (EVP.o ev_int) (okD_of 1 ok_int) (okD_of 1 ok_int) (eqv_int _ _)) fun z => by rw [decide_eq_false (by omega)] at z; cases z)) (c' := true) (by rw [decide_eq_false (by omega)]; rfl)) (fun q => sd_one (sd_raise rfl tk x2 (bad1 ?_))) fun q => by cases q)
      rintro ⟨y, e, _⟩
      injection e with e
      rw [e] at hl
      exact hl rfl
    obtain ⟨u, v, rfl⟩ : ∃ u v, es = [u, v] := by
      match es, hl with
      | [u, v], _ => exact ⟨u, v, rfl⟩
    have parts : AnsD1 or (.tuple [u, v]) → ∃ s m, u = encR s ∧ v = encN m ∧ s ∈ closedSets or ∧ m ≤ 9 := by
      rintro ⟨⟨s, m⟩, e, h1, h2⟩
      have e' : PyData.tuple [u, v] = PyData.tuple [encR s, encN m] := e
      injection e' with e'
      injection e' with e1 e'
      injection e' with e2 _
      exact ⟨s, m, e1, e2, h1, h2⟩
    refine sd_seq (sd_if (TV.to (WV.tv (wv_or (tv_not (tv_val (e_isTup bi (ev_var 3)))) fun _ => wv_or (tv_ne (un65 hr) (EVP.o (ev_len bi.len (EVP.sqT (ev_var 3)))) (EVP.o ev_int) (okD_of 1 ok_int) (okD_of 1 ok_int) (eqv_int _ _)) fun _ => wv_or1 (tv_not (tv_val (ev_fn h2 (hr.mono (by decide)) (av_cons (ev_ixT (ev_var 3) ev_int rfl) (av_cons ev_int (av_one ev_int))) ⟨_, _, _, rfl, rfl⟩))))) (c' := !inR v 0 9) (by simp [isTup])) (fun q => sd_one (sd_raise rfl tk x2 (bad1 fun z => ?_))) fun q => sd_nil ?_)
    · obtain ⟨s, m, _, e2, _, hm⟩ := parts z
      rw [e2, show inR (encN m) 0 9 = true from inR_nat'.mpr ⟨m, rfl, hm⟩] at q
      cases q
    have q1 : inR v 0 9 = true := by simpa using q
    obtain ⟨m, rfl, hm⟩ := inR_nat'.mp q1
    by_cases hu : RisD u or.length
    case neg =>
      refine sd_one (sd_if (TV.to (WV.tv (wv_or (c' := true) (tv_not (tv_val (ev_fn h3 (hr.mono (by decide)) (av_cons (ev_ixT (ev_var 3) ev_int rfl) (av_one (ev_lenM bi (EVP.sqT (ev_var 0))))) ⟨_, _, rfl, rfl⟩))) fun z => by rw [decide_eq_false hu] at z; cases z)) (c' := true) (by rw [decide_eq_false hu]; rfl)) (fun q => sd_one (sd_raise rfl tk x2 (bad1 fun z => ?_))) fun q => by cases q)
      obtain ⟨s, m', e1, _, hs, _⟩ := parts z
      exact hu ⟨s, e1, (mem_closed.mp hs).1⟩
    obtain ⟨s, rfl, hrs⟩ := hu
    refine sd_one (sd_if (TV.to (WV.tv (wv_or (tv_not (tv_val (ev_fn h3 (hr.mono (by decide)) (av_cons (ev_ixT (ev_var 3) ev_int rfl) (av_one (ev_lenM bi (EVP.sqT (ev_var 0))))) ⟨_, _, rfl, rfl⟩))) fun _ => wv_or1 (tv_not (tv_val (ev_fn h4 (hr.mono (by decide)) (av_cons (ev_var 0) (av_one (ev_ixT (ev_var 3) ev_int rfl))) ⟨_, _, rfl, hor, hrs.2, rfl⟩))))) (c' := !clo or s) (by rw [decide_eq_true (show RisD (encR s) or.length from ⟨s, rfl, hrs⟩)]; rfl)) (fun q => sd_one (sd_raise rfl tk x2 (bad1 fun z => ?_))) fun q => sd_nil ⟨⟨.inr rfl, .inr rfl, .inr rfl, .inl rfl, True.intro⟩, fun j hj y hy => ?_⟩)
    · obtain ⟨s', m', e1, _, hs, _⟩ := parts z
      rw [← encR_inj e1, mem_closed] at hs
      rw [hs.2] at q
      cases q
    · rcases Nat.lt_succ_iff_lt_or_eq.mp hj with w' | w'
      · exact hC j w' y hy
      · subst w'
        rw [hx] at hy
        cases hy
        exact ⟨(s, m), rfl, mem_closed.mpr ⟨hrs, by simpa using q⟩, hm⟩
  · obtain ⟨j, hj⟩ := List.mem_iff_getElem?.mp hx
    exact hC j (List.getElem?_eq_some_iff.mp hj).1 x hj

end
section
variable {P : Program} {w : World} {K : PySem.W.Frag} {mg : Str → Option Value} {base : Heap}
def R_candidates (c : Cl) : List PyData → Out → Prop := fun ds o => ∃ d t an, ds = [d, t, an] ∧ (∃ C l, o = .exc C l) ∧ AnsR c (fun _ _ _ _ => False) d t an o
abbrev D_candidates (P : Program) (w : World) (K : PySem.W.Frag) (mg : Str → Option Value) (base : Heap) (c : Cl) : Prop := Dn P w K mg base 6 "candidates" ["order", "total", "answers"] (R_candidates c)
theorem AnsR.bad {c : Cl} {d t an : PyData} {o : Out} (h : AnsR c (fun _ _ _ _ => False) d t an o) : AnsR c (fun _ _ _ o => o = .ret .none) d t an o := by
  rcases h with h | ⟨or, e, hor, h | ⟨n, e2, hn, h | ⟨l, e3, hl, hk⟩⟩⟩
  · exact .inl h
  · exact .inr ⟨or, e, hor, .inl h⟩
  · exact .inr ⟨or, e, hor, .inr ⟨n, e2, hn, .inl h⟩⟩
  · cases hk
theorem ok_candidates {c : Cl} (h1 : D_check_answers P w K mg base c) (D : DefAt K mg "candidates" s_candidates) : D_candidates P w K mg base c := by
  refine dn_of D sc_candidates bd_candidates (fun ds o ⟨_, _, _, h, _⟩ => by rw [h]; rfl) ?_
  rintro f cdv A outer st H E B _ o ⟨d, t, an, rfl, ⟨C, l, rfl⟩, hx⟩ hr po tk
  exact sd_seq (sd_exprX (evx_fn tk h1 (hr.mono (by decide)) (av_cons (ev_var 0) (av_cons (ev_var 1) (av_one (ev_var 2)))) ⟨_, _, _, rfl, hx.bad⟩) (fun d q => by cases q) (fun c l q => q))

end
section
variable {P : Program} {w : World} {K : PySem.W.Frag} {mg : Str → Option Value} {base : Heap}
def R_plan (c : Cl) : List PyData → Out → Prop := fun ds o => ∃ d v u, ds = [d, v, u] ∧ PairR c (fun or a b o => ¬ NoPaper or a b ∧ o = .exc (.ref c.cr) none) d v u o
abbrev D_plan (P : Program) (w : World) (K : PySem.W.Frag) (mg : Str → Option Value) (base : Heap) (c : Cl) : Prop := Dn P w K mg base 7 "plan" ["order", "one", "other"] (R_plan c)
theorem ok_plan {c : Cl} (x : ExcC1 K mg "CannotReach" c.cr) (h1 : D_check_pair P w K mg base c) (h2 : D_paper_of P w K mg base) (D : DefAt K mg "plan" s_plan) : D_plan P w K mg base c := by
  refine dn_of D sc_plan bd_plan (fun ds o ⟨_, _, _, h, _⟩ => by rw [h]; rfl) ?_
  rintro f cdv A outer st H E B _ o ⟨d, v, u, rfl, ho⟩ hr po tk
  refine sd_pair h1 (hr.mono (by decide)) tk (fun _ _ _ q => q) ho (av_cons (ev_var 0) (av_cons (ev_var 1) (av_one (ev_var 2)))) ?_
  rintro or a b rfl rfl rfl hor ha hb hs ⟨hk, rfl⟩
  refine sd_seq (sd_if (tv_notN (ev_fn h2 (hr.mono (by decide)) (av_cons (ev_var 0) (av_cons (ev_var 1) (av_one (ev_var 2)))) ⟨_, _, _, rfl, hor, ha.1, hb.1, rfl⟩)) (fun hc => sd_one (sd_raise rfl tk x rfl)) (fun hc => sd_nil ?_))
  rw [isNone_encP2] at hc
  refine absurd (paper_none.mp (Option.isNone_iff_eq_none.mp ?_)) hk
  simpa using hc

end
section
variable {P : Program} {w : World} {K : PySem.W.Frag} {mg : Str → Option Value} {base : Heap}
def R_paper (c : Cl) : List PyData → Out → Prop := fun ds o => ∃ d v u, ds = [d, v, u] ∧ PairR c (fun or a b o => (NoPaper or a b ∧ o = .exc (.ref c.ca) none) ∨ ∃ s, paperOf or a b = some s ∧ o = .ret (encR s)) d v u o
abbrev D_paper (P : Program) (w : World) (K : PySem.W.Frag) (mg : Str → Option Value) (base : Heap) (c : Cl) : Prop := Dn P w K mg base 7 "paper" ["order", "one", "other"] (R_paper c)
theorem ok_paper {c : Cl} (x : ExcC1 K mg "CanReach" c.ca) (h1 : D_check_pair P w K mg base c) (h2 : D_paper_of P w K mg base) (D : DefAt K mg "paper" s_paper) : D_paper P w K mg base c := by
  refine dn_of D sc_paper bd_paper (fun ds o ⟨_, _, _, h, _⟩ => by rw [h]; rfl) ?_
  rintro f cdv A outer st H E B _ o ⟨d, v, u, rfl, ho⟩ hr po tk
  refine sd_pair h1 hr tk (fun _ _ _ q => q) ho (av_cons (ev_var 0) (av_cons (ev_var 1) (av_one (ev_var 2)))) ?_
  rintro or a b rfl rfl rfl hor ha hb hs hk
  refine sd_seq (sd_set (i := 3) sc_paper.nd (ev_fn h2 (hr.mono (by decide)) (av_cons (ev_var 0) (av_cons (ev_var 1) (av_one (ev_var 2)))) ⟨_, _, _, rfl, hor, ha.1, hb.1, rfl⟩) ?_)
  rcases hk with ⟨np, rfl⟩ | ⟨s, e, rfl⟩
  · exact sd_seq (sd_if (tv_isN (ev_var 3)) (fun hc => sd_one (sd_raise rfl tk x rfl)) (fun hc => by rw [paper_none.mpr np] at hc; cases hc))
  · refine sd_seq (sd_if (tv_isN (ev_var 3)) (fun hc => by rw [e] at hc; cases hc) (fun hc => sd_nil ?_))
    refine sd_one (sd_ret (ev_var 3) ?_)
    rw [e]; rfl

end
section
variable {P : Program} {w : World} {K : PySem.W.Frag} {mg : Str → Option Value} {base : Heap}
def R_stepped : List PyData → Out → Prop := fun ds o => ∃ (v : List Nat) (s g : Nat), ds = [encR v, encN s, encN g] ∧ v.length ≤ 6 ∧ s < v.length ∧ g < v.length ∧ 0 < v.getD s 0 ∧ o = .ret (encR (stepN v s g))
abbrev D_stepped (P : Program) (w : World) (K : PySem.W.Frag) (mg : Str → Option Value) (base : Heap) : Prop := Dn P w K mg base 1 "stepped" ["weights", "start", "goal"] R_stepped
theorem ok_stepped (bi : BI mg) (D : DefAt K mg "stepped" s_stepped) : D_stepped P w K mg base := by
  refine dn_of D sc_stepped bd_stepped (fun ds o ⟨_, _, _, h, _⟩ => by rw [h]; rfl) ?_
  rintro f cdv A outer st H E B _ _ ⟨v, s, g, rfl, hz, hs, hg, h0, rfl⟩ hr po tk
  have ixn : ∀ {n i : Nat}, i < n → ixN n ((i : Nat) : Int) = some i := fun {n i} h => by
    unfold ixN
    rw [if_pos (by omega), if_pos (by omega)]
    simp
  refine sd_seq (sd_setOwn (i := 3) sc_stepped.nd (ev_listS bi.list bt_list (EVP.sqT (ev_var 0))) ?_)
  refine sd_seq (sd_augItem (i := 3) (k := ((s : Nat) : Int)) (j := s) (m := ((v.getD s 0 : Nat) : Int)) (n := 1) ip_sub rfl (ev_var 1) (ixn (by rw [List.length_map]; exact hs)) (by rw [List.getElem?_map, get_some hs]; rfl) ev_int ?_)
  have e1 : (v.map encN).set s (.int (((v.getD s 0 : Nat) : Int) - 1)) = (v.set s (v.getD s 0 - 1)).map encN := by
    rw [← map_set]
    congr 1
    show PyData.int _ = PyData.int _
    congr 1
    omega
  rw [e1]
  obtain ⟨v1, hv1⟩ : ∃ v1, v.set s (v.getD s 0 - 1) = v1 := ⟨_, rfl⟩
  have hl1 : v1.length = v.length := by rw [← hv1, List.length_set]
  rw [hv1]
  refine sd_seq (sd_augItem (i := 3) (k := ((g : Nat) : Int)) (j := g) (m := ((v1.getD g 0 : Nat) : Int)) (n := 1) ip_add rfl (ev_var 2) (ixn (by rw [List.length_map, hl1]; exact hg)) (by rw [List.getElem?_map, get_some (by rw [hl1]; exact hg)]; rfl) ev_int ?_)
  have e2 : (v1.map encN).set g (.int (((v1.getD g 0 : Nat) : Int) + 1)) = (stepN v s g).map encN := by
    rw [← step_set hs hg, hv1, ← map_set]
    rfl
  rw [e2]
  exact sd_one (sd_ret (ev_tupleL bi.tuple bt_tuple (EVP.sqL (ev_own 3))) rfl)

end
section
variable {P : Program} {w : World} {K : PySem.W.Frag} {mg : Str → Option Value} {base : Heap}
abbrev D_ParseError___init__ (P : Program) (w : World) (K : PySem.W.Frag) (mg : Str → Option Value) (base : Heap) (c : Cl) : Prop := PeAt P w K mg base c.pe
theorem ok_ParseError___init__ {c : Cl} (x : ExcC1 K mg "MoveError" c.me) (bI : BaseI K c.me) (D : PeInit K mg c.pe s_ParseError___init__) : D_ParseError___init__ P w K mg base c := by
  refine pe_of D sc_ParseError___init__ bd_ParseError___init__ ?_
  intro f cdv A outer s H E
  refine ⟨_, pss_cons (ps_expr (pe_clsinit bI (by rfl) x.g (pa_cons (pe_var (i := 0) rfl (.inl rfl)) (pa_cons pe_str pa_nil)))) (pss_one (ps_ost (pe_var (i := 0) rfl (.inl rfl)) (pe_var (i := 1) rfl (.inl rfl)))), ?_⟩
  rintro D' σ H' a v rfl ha q
  exact ⟨_, rfl, a, c.pe, _, rfl, (show 1 ≤ 1000 by decide), D.ox, ha, _, rfl, _, rfl, a, c.pe, rfl, D.ox, D.no, .inl ⟨ha, fun dx n1 n2 => q dx n1 n2⟩⟩

end
section
variable {P : Program} {w : World} {K : PySem.W.Frag} {mg : Str → Option Value} {base : Heap}
def prO (c : Cl) : PRes → Out
  | .ok v => .ret (encR v)
  | .line l => .exc (.ref c.pe) (some (lineD l))
def R_parse_weights (c : Cl) : List PyData → Out → Prop := fun ds o => ∃ d t, ds = [d, t] ∧ ((¬ IsOrdD d ∧ o = .exc (.ref c.io) none) ∨ ∃ or, d = encO or ∧ IsOrd or ∧ ((isStr t = false ∧ o = .exc (.ref c.pe) (some .none)) ∨ ∃ z r, t = .str z ∧ z.length ≤ 500 ∧ PR or.length (Txt.split z sp1) r ∧ o = prO c r))
abbrev D_parse_weights (P : Program) (w : World) (K : PySem.W.Frag) (mg : Str → Option Value) (base : Heap) (c : Cl) : Prop := Dn P w K mg base 6 "parse_weights" ["order", "text"] (R_parse_weights c)
theorem enum_strs (T : List Str) : enumD (T.map PyData.str) = (List.range T.length).map fun i => pairD (encN i) (.str (T.getD i Str.empty)) := by
  unfold enumD
  rw [List.length_map]
  refine List.map_congr_left fun i hi => ?_
  have hi := List.mem_range.mp hi
  show pairD _ _ = pairD _ _
  congr 1
  rw [List.getD_eq_getElem?_getD, List.getElem?_map, List.getD_eq_getElem?_getD, List.getElem?_eq_getElem hi]
  rfl
open Classical in
theorem ok_parse_weights (bi : BI mg) {c : Cl} (hD : ∃ t, mg "DIGITS" = some (.str digS t)) (h1 : D_check_order P w K mg base c) (h2 : D_are_weights P w K mg base) (h3 : D_ParseError___init__ P w K mg base c) (D : DefAt K mg "parse_weights" s_parse_weights) : D_parse_weights P w K mg base c := by
  obtain ⟨tD, hD⟩ := hD
  refine dn_of D sc_parse_weights bd_parse_weights (fun ds o ⟨_, _, h, _⟩ => by rw [h]; rfl) ?_
  rintro f cdv A outer st H E B _ o ⟨d, t, rfl, ho⟩ hr po tk
  rcases ho with ⟨ho, rfl⟩ | ⟨or, rfl, hor, ho⟩
  · exact sd_seq (sd_exprX (evx_fn tk h1 (hr.mono (by decide)) (av_one (ev_var 0)) ⟨_, rfl, .inr ⟨ho, rfl⟩⟩) (fun d q => by cases q) (fun C l q => by cases q; rfl))
  refine sd_seq (sd_expr (ev_fn h1 (hr.mono (by decide)) (av_one (ev_var 0)) ⟨_, rfl, .inl ⟨⟨or, rfl, hor⟩, rfl⟩⟩) ?_)
  rcases ho with ⟨hn, rfl⟩ | ⟨z, r, rfl, hz, hP, rfl⟩
  · exact sd_seq (sd_if (TV.to (tv_not (tv_val (e_isStr bi (ev_var 1)))) (c' := true) (by rw [hn]; rfl)) (fun _ => sd_one (sd_raiseL rfl tk h3 (hr.mono (by decide)) ev_non rfl)) fun q => by cases q)
  refine sd_seq (sd_if (TV.to (tv_not (tv_val (e_isStr bi (ev_var 1)))) (c' := false) rfl) (fun q => by cases q) fun _ => sd_nil ?_)
  obtain ⟨T, hT⟩ : ∃ T, Txt.split z sp1 = T := ⟨_, rfl⟩
  rw [hT] at hP
  have hl : T.length ≤ 501 := by have := split_len z; rw [hT] at this; omega
  have htl : ∀ t ∈ T, t.length ≤ 100000 := fun t ht => by
    have h := StrLaws.join_split z sp1
    rw [hT] at h
    have key : ∀ T : List Str, ∀ t ∈ T, t.length ≤ (Str.join sp1 T).length := by
      intro T
      induction T with
      | nil => intro t ht; cases ht
      | cons x r ih =>
        intro t ht
        cases r with
        | nil => rw [List.mem_singleton.mp ht]; exact Nat.le_refl _
        | cons y r =>
          show t.length ≤ (x ++ sp1 ++ Str.join sp1 (y :: r)).length
          rw [Str.length_append, Str.length_append]
          rcases List.mem_cons.mp ht with e | e
          · rw [e]; omega
          · have := ih t e; omega
    have := key T t ht
    rw [h] at this
    omega
  refine sd_seq (sd_setOwn (i := 2) sc_parse_weights.nd (ev_lst av_nil) ?_)
  refine sd_seq (sd_forS (xs := List.range T.length) (f := fun i => pairD (encN i) (.str (T.getD i Str.empty))) (fun v : List Nat => [.d (encO or), .d (.str z), .own K (v.map encN), .un, .un]) (fun i v => T.take i = v.map tokS ∧ v.length = i ∧ ∀ x ∈ v, x ≤ 9) [3, 4] (fun i v => [.d (encO or), .d (.str z), .own K (v.map encN), .d (encN i), .d (.str (T.getD i Str.empty))]) [] po rfl
    (IV.to (iv_enumL bi.enum (EV.to (EVf.ev (ev_split (ev_var 1) (EV.to ev_str (by rw [sp_eq])) (by omega))) (by rw [hT]))) (enum_strs T)) ⟨.inr rfl, .inr rfl, .inr rfl, .inl rfl, .inl rfl, True.intro⟩ ⟨rfl, rfl, fun _ h => by cases h⟩ (fun i y v _ _ => gv_tup rfl (gvs_cons (gv_name (i := 3) sc_parse_weights.nd) (gvs_cons (gv_name (i := 4) sc_parse_weights.nd) gvs_nil))) (fun i y v hy hC => ?_) (fun ρn v le hC => sd_weak le ?_))
  · obtain ⟨ey, hi⟩ := rg hy
    subst ey
    obtain ⟨c1, c2, c3⟩ := hC
    have hg : T[y]? = some (T.getD y Str.empty) := by rw [List.getD_eq_getElem?_getD, List.getElem?_eq_getElem hi]; rfl
    obtain ⟨t, et⟩ : ∃ t, T.getD y Str.empty = t := ⟨_, rfl⟩
    rw [et] at hg ⊢
    have tm := htl t (List.mem_of_getElem? hg)
    have good : ∀ j t', j < y → T[j]? = some t' → dig t' ≠ none := fun j t' hj ht' => by
      have e : (T.take y)[j]? = some t' := by rw [List.getElem?_take, if_pos hj]; exact ht'
      rw [c1, List.getElem?_map] at e
      obtain ⟨k, hk, rfl⟩ := Option.map_eq_some_iff.mp e
      rw [dig_tok k (c3 k (List.mem_of_getElem? hk))]
      exact fun z => nomatch z
    refine sd_seq (sd_if (TV.to (WV.tv (wv_or (tv_neN (un65 hr) (ev_lenT bi.len (ev_var 4) tm) (EV.to ev_int (d' := encN 1) rfl)) (c' := if t.length = 1 then (dig t).isNone else true) fun q1 => ?_)) (c' := (dig t).isNone) ?_) (fun q => sd_one (sd_raiseL rfl tk h3 (hr.mono (by decide)) (ev_var 3) ?_)) fun q => sd_nil ?_)
    · have hl1 : t.length = 1 := by
        by_cases e : t.length = 1
        · exact e
        · rw [decide_eq_false e] at q1; cases q1
      obtain ⟨cc, rfl⟩ := len_one hl1
      refine wv_or1 (TV.to (tv_notinC (ev_var 4) (ev_glS hD)) ?_)
      rw [if_pos hl1]
      exact (dig_one cc).symm
    · by_cases e : t.length = 1
      · rw [decide_eq_true e, if_pos e]; rfl
      · rw [decide_eq_false e, if_neg e, dig_none_len e]; rfl
    · have q : dig t = none := Option.isNone_iff_eq_none.mp q
      cases hP with
      | bad b1 b2 b3 =>
        rename_i i' t'
        have : i' = y := by
          rcases Nat.lt_trichotomy i' y with h | h | h
          · exact absurd b2 (good i' t' h b1)
          · exact h
          · exact absurd q (b3 y t h hg)
        subst this
        rfl
      | ok e1 e2 e3 =>
        rw [e1, List.getElem?_map] at hg
        obtain ⟨k, hk, rfl⟩ := Option.map_eq_some_iff.mp hg
        rw [dig_tok k (e2 k (List.mem_of_getElem? hk))] at q
        cases q
      | wr e1 e2 e3 =>
        rw [e1, List.getElem?_map] at hg
        obtain ⟨k, hk, rfl⟩ := Option.map_eq_some_iff.mp hg
        rw [dig_tok k (e2 k (List.mem_of_getElem? hk))] at q
        cases q
    · cases ed : dig t with
      | none => rw [ed] at q; cases q
      | some k =>
        obtain ⟨k9, ek⟩ := dig_some ed
        refine sd_one (sd_append (i := 2) (d := encN k) rfl (ev_index (ev_glS hD) (EV.to (ev_var 4) (by rw [ek])) (dig_occ k k9)) (by rw [List.length_map, c2]; exact small1000 (by omega)) ⟨v ++ [k], ⟨.inr rfl, .inr rfl, .inr ?_, .inl rfl, .inl rfl, True.intro⟩, ?_, ?_, ?_⟩)
        · rw [List.map_append]; rfl
        · rw [take_get hg, c1, List.map_append, ek]; rfl
        · rw [List.length_append, c2]; rfl
        · intro x hx
          rcases List.mem_append.mp hx with h | h
          · exact c3 x h
          · rw [List.mem_singleton.mp h]; exact k9
  · obtain ⟨c1, c2, c3⟩ := hC
    rw [List.length_range, List.take_length] at c1
    refine sd_seq (sd_if (tv_not (tv_val (ev_fn h2 (hr.mono (by decide)) (av_cons (ev_var 0) (av_one (ev_tupleL bi.tuple bt_tuple (EVP.sqL (ev_own 2))))) ⟨_, _, rfl, rfl⟩))) (fun q => sd_one (sd_raiseL rfl tk h3 (hr.mono (by decide)) ev_non ?_)) fun q => sd_nil ?_)
    · have q : ¬ IsWD or.length (.tuple (v.map encN)) := fun h => by rw [decide_eq_true h] at q; cases q
      cases hP with
      | bad b1 b2 b3 =>
        rw [c1, List.getElem?_map] at b1
        obtain ⟨k, hk, rfl⟩ := Option.map_eq_some_iff.mp b1
        rw [dig_tok k (c3 k (List.mem_of_getElem? hk))] at b2
        cases b2
      | ok e1 e2 e3 =>
        have := toks_inj c3 e2 (c1.symm.trans e1)
        subst this
        exact absurd ⟨v, rfl, e3⟩ q
      | wr e1 e2 e3 => rfl
    · have q : IsWD or.length (.tuple (v.map encN)) := Classical.not_not.mp fun h => by rw [decide_eq_false h] at q; cases q
      refine sd_one (sd_ret (ev_tupleL bi.tuple bt_tuple (EVP.sqL (ev_own 2))) ?_)
      cases hP with
      | bad b1 b2 b3 =>
        rw [c1, List.getElem?_map] at b1
        obtain ⟨k, hk, rfl⟩ := Option.map_eq_some_iff.mp b1
        rw [dig_tok k (c3 k (List.mem_of_getElem? hk))] at b2
        cases b2
      | ok e1 e2 e3 =>
        have := toks_inj c3 e2 (c1.symm.trans e1)
        subst this
        rfl
      | wr e1 e2 e3 =>
        have := toks_inj c3 e2 (c1.symm.trans e1)
        subst this
        obtain ⟨u, e, hu⟩ := q
        rw [encR_inj (show encR v = encR u from e)] at e3
        exact absurd hu e3

end
section
variable {P : Program} {w : World} {K : PySem.W.Frag} {mg : Str → Option Value} {base : Heap}
def R_Mover___init__ (c : Cl) : List PyData → MkO → Prop := fun ds o => ∃ d v, ds = [d, v] ∧ ((¬ IsOrdD d ∧ o = .bad (.ref c.io) none) ∨ ∃ or, d = encO or ∧ IsOrd or ∧ ((¬ IsWD or.length v ∧ o = .bad (.ref c.iw) none) ∨ ∃ a, v = encR a ∧ IsW or.length a ∧ o = .ok ⟨or, [a], 0⟩))
abbrev D_Mover___init__ (P : Program) (w : World) (K : PySem.W.Frag) (mg : Str → Option Value) (base : Heap) (c : Cl) (mv : Addr) : Prop := MkAt P w K mg base 6 "Mover" mv ["self", "order", "weights"] (R_Mover___init__ c)
theorem ok_Mover___init__ {c : Cl} {mv : Addr} (cm : ClsM K mv) (h1 : D_check_weights P w K mg base c) (D : InitAt K mg mv s_Mover___init__) : D_Mover___init__ P w K mg base c mv := by
  refine mk_of D sc_Mover___init__ bd_Mover___init__ (fun ds o ⟨_, _, h, _⟩ => by rw [h]; rfl) ?_
  rintro f cdv A outer st H E B a dx _ o ⟨d, v, rfl, ho⟩ hr tk
  rcases ho with ⟨ho, rfl⟩ | ⟨or, rfl, hor, ⟨hn, rfl⟩ | ⟨r, rfl, hw, rfl⟩⟩
  · exact sd_seq (sd_exprX (evx_fn tk h1 hr (av_cons (ev_var 1) (av_one (ev_var 2))) ⟨_, _, rfl, .inl ⟨ho, rfl⟩⟩) (fun d q => by cases q) (fun c l q => by cases q; rfl))
  · exact sd_seq (sd_exprX (evx_fn tk h1 hr (av_cons (ev_var 1) (av_one (ev_var 2))) ⟨_, _, rfl, .inr ⟨or, rfl, hor, .inr ⟨hn, rfl⟩⟩⟩) (fun d q => by cases q) (fun c l q => by cases q; rfl))
  · refine sd_seq (sd_expr (ev_fn h1 (hr.mono (by decide)) (av_cons (ev_var 1) (av_one (ev_var 2))) ⟨_, _, rfl, .inr ⟨or, rfl, hor, .inl ⟨⟨r, rfl, hw⟩, rfl⟩⟩⟩) ?_)
    refine sd_seq (sd_fld1 (i := 0) rfl cm.cls cm.no1 (ev_var 1) ?_)
    refine sd_seq (sd_fld2 (i := 0) (ds := [encR r]) rfl cm.cls cm.no2 (ev_lst (av_one (ev_var 2))) fun l => ?_)
    exact sd_one (sd_fld3 (i := 0) (ws := [r]) (n := 0) rfl cm.cls cm.no3 ev_int ⟨l, _, rfl, rfl⟩)

end
section
variable {P : Program} {w : World} {K : PySem.W.Frag} {mg : Str → Option Value} {base : Heap}
def R_Mover_options : Mv → List PyData → Out → Prop := fun m ds o => ds = [] ∧ MvOk m ∧ o = .ret (.list ((optsOf m.ord m.last).map enc2))
abbrev D_Mover_options (P : Program) (w : World) (K : PySem.W.Frag) (mg : Str → Option Value) (base : Heap) (mv : Addr) : Prop := Vn P w K mg base 1 mv "options" ["self"] R_Mover_options
theorem ok_Mover_options (bi : BI mg) {mv : Addr} (cm : ClsM K mv) (D : MethAt K mv "options" "Mover.options" s_Mover_options) : D_Mover_options P w K mg base mv := by
  refine vn_of D sc_Mover_options bd_Mover_options (fun m ds o ⟨h, _⟩ => by rw [h]; rfl) ?_
  rintro f cdv A outer st H E B a dx l vo vs m _ _ ⟨rfl, hok, rfl⟩ hr po tk
  have h6 := hok.ord.most
  have hw := hok.lastW
  obtain ⟨v, hv⟩ : ∃ v, m.last = v := ⟨_, rfl⟩
  rw [hv] at hw
  rw [hv]
  refine sd_seq (sd_setOwn (i := 1) sc_Mover_options.nd (ev_lst av_nil) ?_)
  refine sd_seq (sd_forW (xs := List.range v.length) (f := fun i => pairD (encN i) (encN (v.getD i 0))) (fun i => [.movV K mv a dx l vo vs m, .own K ((optsTo m.ord v i).map enc2), .un, .un, .un]) (fun _ => True) [2, 3] (fun i p => [.movV K mv a dx l vo vs m, .own K ((optsTo m.ord v i).map enc2), .d (encN p), .d (encN (v.getD p 0)), .un]) po rfl
    (IV.to (iv_enumT bi.enum (EV.to (ev_ixL (ev_fS (ev_mov 0 rfl isMov_v) cm) (ev_neg ev_int) (last_ix hok.ne)) (d' := encR v) (by rw [hv]))) (enumD_map encN v 0)) ⟨.inr rfl, .inr rfl, .inl rfl, .inl rfl, .inl rfl, True.intro⟩ True.intro (fun i p _ _ => gv_tup rfl (gvs_cons (gv_name (i := 2) sc_Mover_options.nd) (gvs_cons (gv_name (i := 3) sc_Mover_options.nd) gvs_nil))) (fun i p hp _ => ?_) (fun ρn le _ => sd_weak le ?_))
  · obtain ⟨ep, hi⟩ := rg hp
    subst ep
    have hpo : p < m.ord.length := by rw [← hw.1]; exact hi
    refine sd_one (sd_if (tv_gtN (n := 0) (ev_var 3) ev_int) (fun q => ?_) fun q => sd_nil ?_)
    · have q := of_decide_eq_true q
      refine sd_one (sd_extend (i := 1) (es' := (((above m.ord p).filter fun _ => true).map fun g => enc2 (p, g))) rfl (EVf.ev (ev_lc (own := [("goal", 4)]) (xs := above m.ord p) (f := encN) (g := fun g => enc2 (p, g)) (pr := fun _ => true) rfl sc_Mover_options.nd (z1000 (by have := above_len6 hok.ord p; omega)) (iv_tup (ev_ixO hok.ord (ev_fO (ev_mov 0 rfl isMov_v) cm) (ev_var 2) hpo)) (blkOk_by (N := N_Mover_options) (sc := defScope s_Mover_options) (by decide +kernel)) (fun _ _ _ _ _ _ _ => (gv_name (i := 4) sc_Mover_options.nd)) (fun _ _ _ _ _ _ _ => tvs_nil) (fun _ _ _ _ _ _ _ _ => ev_tup (av_cons (ev_var 2) (av_one (ev_var 4)))))) ?_ ⟨⟨.inr rfl, .inr ?_, .inl rfl, .inl rfl, .inl rfl, True.intro⟩, True.intro⟩)
      · rw [filt_true, List.length_map, List.length_map]
        have := above_len6 hok.ord p
        have := opts_len hok.ord v p
        exact z1000 (by omega)
      · rw [opts_succ, if_pos q, filt_true, List.map_append, List.map_map]; rfl
    · have q := of_decide_eq_false q
      refine ⟨⟨.inr rfl, .inr ?_, .inl rfl, .inl rfl, .inl rfl, True.intro⟩, True.intro⟩
      rw [opts_succ, if_neg q, List.append_nil]
  · rw [List.length_range]
    refine sd_freeze (i := 1) rfl ?_
    exact sd_one (sd_ret (ev_var 1) ⟨rfl, rfl⟩)

end
section
variable {P : Program} {w : World} {K : PySem.W.Frag} {mg : Str → Option Value} {base : Heap}
def R_Mover_move (c : Cl) : Mv → List PyData → Out → Mv → Prop := fun m ds o m' => ∃ s g : PyData, ds = [s, g] ∧ MvOk m ∧ m.steps.length ≤ 500 ∧ (((inR s 0 ((m.ord.length : Int) - 1) = false ∨ inR g 0 ((m.ord.length : Int) - 1) = false) ∧ o = .exc (.ref c.ip) none ∧ m' = m) ∨
  ∃ i j : Nat, s = encN i ∧ g = encN j ∧ i < m.ord.length ∧ j < m.ord.length ∧ (((i, j) ∉ optsOf m.ord m.last ∧ o = .exc (.ref c.cm) none ∧ m' = m) ∨ ((i, j) ∈ optsOf m.ord m.last ∧ o = .ret (encR (stepN m.last i j)) ∧ m' = ⟨m.ord, m.steps ++ [stepN m.last i j], m.kept⟩)))
abbrev D_Mover_move (P : Program) (w : World) (K : PySem.W.Frag) (mg : Str → Option Value) (base : Heap) (c : Cl) (mv : Addr) : Prop := Mn P w K mg base 3 mv "move" ["self", "start", "goal"] (R_Mover_move c)
theorem inR_enc {i n : Nat} (h : i < n) : inR (encN i) 0 ((n : Int) - 1) = true := inR_nat.mpr ⟨i, rfl, h⟩
theorem ok_Mover_move {c : Cl} {mv : Addr} (x : ExcC1 K mg "CannotMove" c.cm) (cm : ClsM K mv) (h1 : D_check_point P w K mg base c) (h2 : D_stepped P w K mg base) (h3 : D_Mover_options P w K mg base mv) (D : MethAt K mv "move" "Mover.move" s_Mover_move) : D_Mover_move P w K mg base c mv := by
  refine mn_of D sc_Mover_move bd_Mover_move (fun m ds o m' ⟨_, _, h, _⟩ => by rw [h]; rfl) ?_
  rintro f cdv A outer st H E B a dx l m _ o m' ⟨s, g, rfl, hok, hz, ho⟩ hr po tk
  have h6 := hok.ord.most
  have cp : ∀ d : PyData, inR d 0 ((m.ord.length : Int) - 1) = true → R_check_point c [encO m.ord, d] (.ret .none) := fun d h => ⟨_, _, rfl, .inl ⟨h, rfl⟩⟩
  have cx : ∀ d : PyData, inR d 0 ((m.ord.length : Int) - 1) = false → R_check_point c [encO m.ord, d] (.exc (.ref c.ip) none) := fun d h => ⟨_, _, rfl, .inr ⟨h, rfl⟩⟩
  by_cases hs : inR s 0 ((m.ord.length : Int) - 1) = true
  · by_cases hg : inR g 0 ((m.ord.length : Int) - 1) = true
    · rcases ho with ⟨z, _⟩ | ⟨i, j, rfl, rfl, hi, hj, ho⟩
      · rw [hs, hg] at z
        rcases z with z | z <;> cases z
      refine sd_seq (sd_expr (ev_fn h1 (hr.mono (by decide)) (av_cons (ev_fO (ev_mov 0 rfl isMov_r) cm) (av_one (ev_var 1))) (cp _ hs)) ?_)
      refine sd_seq (sd_expr (ev_fn h1 (hr.mono (by decide)) (av_cons (ev_fO (ev_mov 0 rfl isMov_r) cm) (av_one (ev_var 2))) (cp _ hg)) ?_)
      refine sd_seq (sd_if (tv_notin (un65 hr) (EVP.o (EV.to (ev_tup (av_cons (ev_var 1) (av_one (ev_var 2)))) (d' := enc2 (i, j)) rfl)) (EVP.o (ev_mV0 cm h3 (hr.mono (by decide)) (ev_mov 0 rfl isMov_r) ⟨rfl, hok, rfl⟩)) (okD_of 2 (ok_tuple (by intro d hd; simp at hd; rcases hd with rfl | rfl <;> exact ok_encN))) (okOpts _) (any_enc2 _ _)) (fun q => sd_one (sd_raise rfl tk x ?_)) fun q => sd_nil ?_)
      · rcases ho with ⟨_, ho, hm⟩ | ⟨y, _⟩
        · exact ⟨ho, by rw [hm]; rfl⟩
        · rw [decide_eq_true y] at q; cases q
      · rcases ho with ⟨y, _⟩ | ⟨y, rfl, rfl⟩
        · rw [decide_eq_false y] at q; cases q
        obtain ⟨y1, y2, y3⟩ := mem_opts.mp y
        have hl := hok.lastW.1
        refine sd_seq (sd_stepsAppend (j := 0) (w := stepN m.last i j) cm rfl (ev_fn h2 (hr.mono (by decide)) (av_cons (ev_ixL (ev_fS (ev_mov 0 rfl isMov_r) cm) (ev_neg ev_int) (last_ix hok.ne)) (av_cons (ev_var 1) (av_one (ev_var 2)))) ⟨_, _, _, rfl, by omega, y1, by omega, y2, rfl⟩) (by omega) ?_)
        exact sd_one (sd_ret (EV.to (ev_ixL (ev_fS (ev_mov 0 rfl isMov_r) cm) (ev_neg ev_int) (last_ix (m := ⟨m.ord, m.steps ++ [stepN m.last i j], m.kept⟩) (by simp))) (by rw [last_snoc])) ⟨rfl, rfl⟩)
    · have hg := Bool.eq_false_iff.mpr hg
      rcases ho with ⟨_, rfl, rfl⟩ | ⟨i, j, rfl, rfl, hi, hj, ho⟩
      · refine sd_seq (sd_expr (ev_fn h1 (hr.mono (by decide)) (av_cons (ev_fO (ev_mov 0 rfl isMov_r) cm) (av_one (ev_var 1))) (cp _ hs)) ?_)
        exact sd_seq (sd_exprX (evx_fn tk h1 (hr.mono (by decide)) (av_cons (ev_fO (ev_mov 0 rfl isMov_r) cm) (av_one (ev_var 2))) (cx _ hg)) (fun d q => by cases q) (fun C l q => by cases q; exact ⟨rfl, rfl⟩))
      · rw [inR_enc hj] at hg; cases hg
  · have hs := Bool.eq_false_iff.mpr hs
    rcases ho with ⟨_, rfl, rfl⟩ | ⟨i, j, rfl, rfl, hi, hj, ho⟩
    · exact sd_seq (sd_exprX (evx_fn tk h1 (hr.mono (by decide)) (av_cons (ev_fO (ev_mov 0 rfl isMov_r) cm) (av_one (ev_var 1))) (cx _ hs)) (fun d q => by cases q) (fun C l q => by cases q; exact ⟨rfl, rfl⟩))
    · rw [inR_enc hi] at hs; cases hs

end
section
variable {P : Program} {w : World} {K : PySem.W.Frag} {mg : Str → Option Value} {base : Heap}
def R_Mover_undo (c : Cl) : Mv → List PyData → Out → Mv → Prop := fun m ds o m' => ds = [] ∧ MvOk m ∧ ((m.steps.length = 1 ∧ o = .exc (.ref c.nu) none ∧ m' = m) ∨ (1 < m.steps.length ∧ m' = ⟨m.ord, m.steps.dropLast, m.kept⟩ ∧ o = .ret (encR m'.last)))
abbrev D_Mover_undo (P : Program) (w : World) (K : PySem.W.Frag) (mg : Str → Option Value) (base : Heap) (c : Cl) (mv : Addr) : Prop := Mn P w K mg base 1 mv "undo" ["self"] (R_Mover_undo c)
theorem ok_Mover_undo (bi : BI mg) {c : Cl} {mv : Addr} (x : ExcC1 K mg "NothingToUndo" c.nu) (cm : ClsM K mv) (D : MethAt K mv "undo" "Mover.undo" s_Mover_undo) : D_Mover_undo P w K mg base c mv := by
  refine mn_of D sc_Mover_undo bd_Mover_undo (fun m ds o m' ⟨h, _⟩ => by rw [h]; rfl) ?_
  rintro f cdv A outer st H E B a dx l m _ o m' ⟨rfl, hok, ho⟩ hr po tk
  have hk := hok.kept
  refine sd_seq (sd_if (tv_le (ev_sub (EV.to (ev_len bi.len (EVP.sqL (ev_fS (ev_mov 0 rfl isMov_r) cm))) (d' := .int (m.steps.length : Nat)) (by rw [List.length_map])) ev_int) (ev_fK (ev_mov 0 rfl isMov_r) cm)) (fun q => sd_one (sd_raise rfl tk x ?_)) fun q => sd_nil ?_)
  · have q := of_decide_eq_true q
    rcases ho with ⟨_, rfl, rfl⟩ | ⟨h, _⟩
    · exact ⟨rfl, rfl⟩
    · omega
  · have q := of_decide_eq_false q
    rcases ho with ⟨h, _⟩ | ⟨h, rfl, rfl⟩
    · omega
    refine sd_seq (sd_stepsPop (j := 0) cm rfl hok.ne ?_)
    have hne : m.steps.dropLast ≠ [] := fun z => by
      have := congrArg List.length z
      rw [List.length_dropLast, List.length_nil] at this
      omega
    exact sd_one (sd_ret (ev_ixL (ev_fS (ev_mov 0 rfl isMov_r) cm) (ev_neg ev_int) (last_ix (m := ⟨m.ord, m.steps.dropLast, m.kept⟩) hne)) ⟨rfl, rfl⟩)

end
section
variable {P : Program} {w : World} {K : PySem.W.Frag} {mg : Str → Option Value} {base : Heap}
def R__law_cell : List PyData → Out → Prop := fun ds o => ∃ (sc : List Int) (k : Nat), ds = [scriptD sc, encN k] ∧ o = .ret (.int (cellAt sc k))
abbrev D__law_cell (P : Program) (w : World) (K : PySem.W.Frag) (mg : Str → Option Value) (base : Heap) : Prop := Dn P w K mg base 1 "_law_cell" ["script", "k"] R__law_cell
theorem ok__law_cell (bi : BI mg) (D : DefAt K mg "_law_cell" s__law_cell) : D__law_cell P w K mg base := by
  refine dn_of D sc__law_cell bd__law_cell (fun ds o ⟨_, _, h, _⟩ => by rw [h]; rfl) ?_
  rintro f cdv A outer st H E B _ _ ⟨sc, k, rfl, rfl⟩ hr po tk
  refine sd_seq (sd_if (tv_lt (ev_var 1) (ev_lenS bi.len (ev_var 0))) (fun hc => sd_one (sd_ret (ev_ixS (ns := sc) (ev_var 0) (ev_var 1) ?_) rfl)) (fun hc => sd_nil (sd_one (sd_ret ev_int ?_))))
  · have hk : k < sc.length := by have := of_decide_eq_true hc; omega
    refine atI_nat ?_
    unfold cellAt
    rw [List.getD_eq_getElem?_getD, List.getElem?_eq_getElem hk]; rfl
  · have hk : ¬ k < sc.length := by have := of_decide_eq_false hc; omega
    show Out.ret (.int (cellAt sc k)) = .ret (.int 0)
    unfold cellAt
    rw [List.getD_eq_getElem?_getD, List.getElem?_eq_none (by omega)]; rfl

end
section
variable {P : Program} {w : World} {K : PySem.W.Frag} {mg : Str → Option Value} {base : Heap}
def clsL (c : Cl) : List Addr := [c.io, c.iw, c.ip, c.ia, c.cr, c.ca, c.cm, c.pe, c.nu]
def wantC (c : Cl) (m : Nat) : Addr := (clsL c).getD m c.io
def wantLn (m : Nat) : Option PyData := if m = 7 then some (encN 1) else none
def R__law_raise (c : Cl) : List PyData → Out → Prop := fun ds o => ∃ m : Nat, ds = [encN m] ∧ m ≤ 8 ∧ o = .exc (.ref (wantC c m)) (wantLn m)
abbrev D__law_raise (P : Program) (w : World) (K : PySem.W.Frag) (mg : Str → Option Value) (base : Heap) (c : Cl) : Prop := Dn P w K mg base 10 "_law_raise" ["mode"] (R__law_raise c)
theorem no_ord0 : ¬ IsOrdD (.tuple [.tuple [.int 0]]) := by
  rintro ⟨o, e, h⟩
  have e2 : encO [[0]] = encO o := e
  have := encO_inj e2
  subst this
  exact h.irr 0 [0] rfl (by simp)
theorem no_pr : ¬ IsPr pairO.length (encR [1, 0]) (encR [1, 1]) := by
  rintro ⟨a, b, e1, e2, _, _, h⟩
  rw [← encR_inj e1, ← encR_inj e2] at h
  exact absurd h (by decide)
theorem no_pt : inR (.int 2) 0 ((pairO.length : Int) - 1) = false := by decide
theorem no_ans : ¬ AnsOk pairO (.tuple [.tuple [.tuple [.int 0], .int 0]]) := by
  intro h
  obtain ⟨x, e, hx, _⟩ := ans_iff.mp h _ List.mem_cons_self
  have e2 : encA ([0], 0) = encA x := e
  have := encA_inj e2
  subst this
  revert hx
  decide +kernel
theorem np1 : ¬ NoPaper pairO [0, 1] [1, 0] := by unfold NoPaper; decide +kernel
theorem np2 : NoPaper pairO [1, 0] [0, 1] := by unfold NoPaper; decide +kernel
theorem pw1 : IsW pairO.length [0, 1] := ⟨rfl, by decide⟩
theorem pw2 : IsW pairO.length [1, 0] := ⟨rfl, by decide⟩
theorem pMv : MvOk ⟨pairO, [[0, 1]], 0⟩ := ⟨pairO_ok, by simp, fun w hw => by rw [List.mem_singleton.mp hw]; exact pw1, rfl⟩
theorem no_opt : (0, 1) ∉ optsOf pairO [0, 1] := by decide +kernel
theorem pr_0x : PR pairO.length (Txt.split ("0 x" : Str) sp1) (.line (some 1)) := by
  have e : Txt.split ("0 x" : Str) sp1 = [tokS 0, "x"] := by
    rw [show ("0 x" : Str) = Str.join sp1 [tokS 0, "x"] from by decide +kernel]
    exact split_join (by simp) (by decide +kernel)
  rw [e]
  refine .bad (t := "x") rfl (by decide +kernel) fun j t' hj ht' => ?_
  have : j = 0 := by omega
  subst this
  cases ht'
  decide +kernel
theorem ok__law_raise {c : Cl} {mv : Addr} (cm : ClsM K mv) (h0 : D_closed_sets P w K mg base c) (h1 : D_can_reach P w K mg base c) (h2 : D_neighbors_above P w K mg base c) (h3 : D_candidates P w K mg base c) (h4 : D_plan P w K mg base c) (h5 : D_paper P w K mg base c) (h6 : D_Mover___init__ P w K mg base c mv) (h7 : D_Mover_move P w K mg base c mv) (h8 : D_parse_weights P w K mg base c) (h9 : D_Mover_undo P w K mg base c mv) (D : DefAt K mg "_law_raise" s__law_raise) : D__law_raise P w K mg base c := by
  refine dn_of D sc__law_raise bd__law_raise (fun ds o ⟨_, h, _⟩ => by rw [h]; rfl) ?_
  rintro f cdv A outer st H E B _ _ ⟨m, rfl, hm, rfl⟩ hr po tk
  refine sd_seq (sd_set (i := 1) sc__law_raise.nd (d := encO pairO) (EV.to (ev_tup (av_cons (ev_tup (av_one ev_int)) (av_one (ev_tup av_nil)))) rfl) ?_)
  refine sd_seq (sd_if (tv_eqN (n := 0) (un65 hr) (ev_var 0) ev_int) (fun q => ?_) fun n0 => sd_nil ?_)
  · obtain rfl : m = 0 := of_decide_eq_true q
    exact sd_one (sd_retX (evx_fn tk h0 (hr.mono (by decide)) (av_one (ev_tup (av_one (ev_tup (av_one ev_int))))) ⟨_, rfl, no_ord0, rfl⟩) (fun d q => by cases q) (fun C l q => by cases q; rfl))
  refine sd_seq (sd_if (tv_eqN (n := 1) (un65 hr) (ev_var 0) ev_int) (fun q => ?_) fun n1 => sd_nil ?_)
  · obtain rfl : m = 1 := of_decide_eq_true q
    exact sd_one (sd_retX (evx_fn tk h1 (hr.mono (by decide)) (av_cons (ev_var 1) (av_cons (EV.to (ev_tup (av_cons ev_int (av_one ev_int))) (d' := encR [1, 0]) rfl) (av_one (EV.to (ev_tup (av_cons ev_int (av_one ev_int))) (d' := encR [1, 1]) rfl)))) ⟨_, _, _, rfl, .inr ⟨_, rfl, pairO_ok, .inl ⟨no_pr, rfl⟩⟩⟩) (fun d q => by cases q) (fun C l q => by cases q; rfl))
  refine sd_seq (sd_if (tv_eqN (n := 2) (un65 hr) (ev_var 0) ev_int) (fun q => ?_) fun n2 => sd_nil ?_)
  · obtain rfl : m = 2 := of_decide_eq_true q
    exact sd_one (sd_retX (evx_fn tk h2 (hr.mono (by decide)) (av_cons (ev_var 1) (av_one ev_int)) ⟨_, _, rfl, .inr ⟨_, rfl, pairO_ok, no_pt, rfl⟩⟩) (fun d q => by cases q) (fun C l q => by cases q; rfl))
  refine sd_seq (sd_if (tv_eqN (n := 3) (un65 hr) (ev_var 0) ev_int) (fun q => ?_) fun n3 => sd_nil ?_)
  · obtain rfl : m = 3 := of_decide_eq_true q
    exact sd_one (sd_retX (evx_fn tk h3 (hr.mono (by decide)) (av_cons (ev_var 1) (av_cons (EV.to ev_int (d' := encN 1) rfl) (av_one (ev_tup (av_one (ev_tup (av_cons (ev_tup (av_one ev_int)) (av_one ev_int)))))))) ⟨_, _, _, rfl, ⟨_, _, rfl⟩, .inr ⟨_, rfl, pairO_ok, .inr ⟨1, rfl, by decide, .inl ⟨no_ans, rfl⟩⟩⟩⟩) (fun d q => by cases q) (fun C l q => by cases q; rfl))
  refine sd_seq (sd_if (tv_eqN (n := 4) (un65 hr) (ev_var 0) ev_int) (fun q => ?_) fun n4 => sd_nil ?_)
  · obtain rfl : m = 4 := of_decide_eq_true q
    exact sd_one (sd_retX (evx_fn tk h4 (hr.mono (by decide)) (av_cons (ev_var 1) (av_cons (EV.to (ev_tup (av_cons ev_int (av_one ev_int))) (d' := encR [0, 1]) rfl) (av_one (EV.to (ev_tup (av_cons ev_int (av_one ev_int))) (d' := encR [1, 0]) rfl)))) ⟨_, _, _, rfl, .inr ⟨_, rfl, pairO_ok, .inr ⟨_, _, rfl, rfl, pw1, pw2, rfl, np1, rfl⟩⟩⟩) (fun d q => by cases q) (fun C l q => by cases q; rfl))
  refine sd_seq (sd_if (tv_eqN (n := 5) (un65 hr) (ev_var 0) ev_int) (fun q => ?_) fun n5 => sd_nil ?_)
  · obtain rfl : m = 5 := of_decide_eq_true q
    exact sd_one (sd_retX (evx_fn tk h5 (hr.mono (by decide)) (av_cons (ev_var 1) (av_cons (EV.to (ev_tup (av_cons ev_int (av_one ev_int))) (d' := encR [1, 0]) rfl) (av_one (EV.to (ev_tup (av_cons ev_int (av_one ev_int))) (d' := encR [0, 1]) rfl)))) ⟨_, _, _, rfl, .inr ⟨_, rfl, pairO_ok, .inr ⟨_, _, rfl, rfl, pw2, pw1, rfl, .inl ⟨np2, rfl⟩⟩⟩⟩) (fun d q => by cases q) (fun C l q => by cases q; rfl))
  refine sd_seq (sd_if (tv_eqN (n := 6) (un65 hr) (ev_var 0) ev_int) (fun q => ?_) fun n6 => sd_nil ?_)
  · obtain rfl : m = 6 := of_decide_eq_true q
    exact sd_one (sd_retX (evx_tmp (m' := ⟨pairO, [[0, 1]], 0⟩) tk cm h7 (hr.mono (by decide)) (evmk tk h6 (hr.mono (by decide)) (av_cons (ev_var 1) (av_one (EV.to (ev_tup (av_cons ev_int (av_one ev_int))) (d' := encR [0, 1]) rfl))) ⟨_, _, rfl, .inr ⟨_, rfl, pairO_ok, .inr ⟨_, rfl, pw1, rfl⟩⟩⟩) (av_cons (EV.to ev_int (d' := encN 0) rfl) (av_one (EV.to ev_int (d' := encN 1) rfl))) ⟨_, _, rfl, pMv, by decide, .inr ⟨0, 1, rfl, rfl, by decide, by decide, .inl ⟨no_opt, rfl, rfl⟩⟩⟩) (fun d q => by cases q) (fun C l q => by cases q; rfl))
  by_cases e7 : m = 7
  · subst e7
    exact sd_one (sd_retX (evx_if (tv_eqN (n := 7) (un65 hr) (ev_var 0) ev_int) (fun _ => evx_fn tk h8 (hr.mono (by decide)) (av_cons (ev_var 1) (av_one ev_str)) ⟨_, _, rfl, .inr ⟨_, rfl, pairO_ok, .inr ⟨_, _, rfl, by decide +kernel, pr_0x, rfl⟩⟩⟩) (fun q => by cases q)) (fun d q => by cases q) (fun C l q => by cases q; rfl))
  · have e8 : m = 8 := by
      have n0 := of_decide_eq_false n0
      have n1 := of_decide_eq_false n1
      have n2 := of_decide_eq_false n2
      have n3 := of_decide_eq_false n3
      have n4 := of_decide_eq_false n4
      have n5 := of_decide_eq_false n5
      have n6 := of_decide_eq_false n6
      omega
    subst e8
    exact sd_one (sd_retX (evx_if (tv_eqN (n := 7) (un65 hr) (ev_var 0) ev_int) (fun q => by cases q) (fun _ => evx_tmp0 (m' := ⟨pairO, [[0, 1]], 0⟩) tk cm h9 (hr.mono (by decide)) (evmk tk h6 (hr.mono (by decide)) (av_cons (ev_var 1) (av_one (EV.to (ev_tup (av_cons ev_int (av_one ev_int))) (d' := encR [0, 1]) rfl))) ⟨_, _, rfl, .inr ⟨_, rfl, pairO_ok, .inr ⟨_, rfl, pw1, rfl⟩⟩⟩) ⟨rfl, pMv, .inl ⟨rfl, rfl, rfl⟩⟩)) (fun d q => by cases q) (fun C l q => by cases q; rfl))

end
section
variable {P : Program} {w : World} {K : PySem.W.Frag} {mg : Str → Option Value} {base : Heap}
def R_law : List PyData → Out → Prop := fun ds o => ∃ sc : List Int, ds = [scriptD sc] ∧ o = .ret (.bool true)
abbrev D_law (P : Program) (w : World) (K : PySem.W.Frag) (mg : Str → Option Value) (base : Heap) : Prop := Dn P w K mg base 11 "law" ["script"] R_law
theorem ok_law (bi : BI mg) (vn : mg "ValueError" = none) {c : Cl} (pr : PeRead K mg c.pe) (xme : ExcC1 K mg "MoveError" c.me) (xio : ExcC1 K mg "InvalidOrder" c.io) (yio : ExcC K c.io) (mio : IsA K c.io c.me true) (vio : IsB K c.io "ValueError" true) (xiw : ExcC1 K mg "InvalidWeights" c.iw) (yiw : ExcC K c.iw) (miw : IsA K c.iw c.me true) (viw : IsB K c.iw "ValueError" true) (xip : ExcC1 K mg "InvalidPoint" c.ip) (yip : ExcC K c.ip) (mip : IsA K c.ip c.me true) (vip : IsB K c.ip "ValueError" true) (xia : ExcC1 K mg "InvalidAnswers" c.ia) (yia : ExcC K c.ia) (mia : IsA K c.ia c.me true) (via : IsB K c.ia "ValueError" true) (xcr : ExcC1 K mg "CannotReach" c.cr) (ycr : ExcC K c.cr) (mcr : IsA K c.cr c.me true) (vcr : IsB K c.cr "ValueError" true) (xca : ExcC1 K mg "CanReach" c.ca) (yca : ExcC K c.ca) (mca : IsA K c.ca c.me true) (vca : IsB K c.ca "ValueError" true) (xcm : ExcC1 K mg "CannotMove" c.cm) (ycm : ExcC K c.cm) (mcm : IsA K c.cm c.me true) (vcm : IsB K c.cm "ValueError" true) (ype : ExcC K c.pe) (mpe : IsA K c.pe c.me true) (vpe : IsB K c.pe "ValueError" true) (xnu : ExcC1 K mg "NothingToUndo" c.nu) (ynu : ExcC K c.nu) (mnu : IsA K c.nu c.me true) (vnu : IsB K c.nu "ValueError" true) (iioio : IsA K c.io c.io true) (iioiw : IsA K c.io c.iw false) (iioip : IsA K c.io c.ip false) (iioia : IsA K c.io c.ia false) (iiocr : IsA K c.io c.cr false) (iioca : IsA K c.io c.ca false) (iiocm : IsA K c.io c.cm false) (iiope : IsA K c.io c.pe false) (iionu : IsA K c.io c.nu false) (iiwio : IsA K c.iw c.io false) (iiwiw : IsA K c.iw c.iw true) (iiwip : IsA K c.iw c.ip false) (iiwia : IsA K c.iw c.ia false) (iiwcr : IsA K c.iw c.cr false) (iiwca : IsA K c.iw c.ca false) (iiwcm : IsA K c.iw c.cm false) (iiwpe : IsA K c.iw c.pe false) (iiwnu : IsA K c.iw c.nu false) (iipio : IsA K c.ip c.io false) (iipiw : IsA K c.ip c.iw false) (iipip : IsA K c.ip c.ip true) (iipia : IsA K c.ip c.ia false) (iipcr : IsA K c.ip c.cr false) (iipca : IsA K c.ip c.ca false) (iipcm : IsA K c.ip c.cm false) (iippe : IsA K c.ip c.pe false) (iipnu : IsA K c.ip c.nu false) (iiaio : IsA K c.ia c.io false) (iiaiw : IsA K c.ia c.iw false) (iiaip : IsA K c.ia c.ip false) (iiaia : IsA K c.ia c.ia true) (iiacr : IsA K c.ia c.cr false) (iiaca : IsA K c.ia c.ca false) (iiacm : IsA K c.ia c.cm false) (iiape : IsA K c.ia c.pe false) (iianu : IsA K c.ia c.nu false) (icrio : IsA K c.cr c.io false) (icriw : IsA K c.cr c.iw false) (icrip : IsA K c.cr c.ip false) (icria : IsA K c.cr c.ia false) (icrcr : IsA K c.cr c.cr true) (icrca : IsA K c.cr c.ca false) (icrcm : IsA K c.cr c.cm false) (icrpe : IsA K c.cr c.pe false) (icrnu : IsA K c.cr c.nu false) (icaio : IsA K c.ca c.io false) (icaiw : IsA K c.ca c.iw false) (icaip : IsA K c.ca c.ip false) (icaia : IsA K c.ca c.ia false) (icacr : IsA K c.ca c.cr false) (icaca : IsA K c.ca c.ca true) (icacm : IsA K c.ca c.cm false) (icape : IsA K c.ca c.pe false) (icanu : IsA K c.ca c.nu false) (icmio : IsA K c.cm c.io false) (icmiw : IsA K c.cm c.iw false) (icmip : IsA K c.cm c.ip false) (icmia : IsA K c.cm c.ia false) (icmcr : IsA K c.cm c.cr false) (icmca : IsA K c.cm c.ca false) (icmcm : IsA K c.cm c.cm true) (icmpe : IsA K c.cm c.pe false) (icmnu : IsA K c.cm c.nu false) (ipeio : IsA K c.pe c.io false) (ipeiw : IsA K c.pe c.iw false) (ipeip : IsA K c.pe c.ip false) (ipeia : IsA K c.pe c.ia false) (ipecr : IsA K c.pe c.cr false) (ipeca : IsA K c.pe c.ca false) (ipecm : IsA K c.pe c.cm false) (ipepe : IsA K c.pe c.pe true) (ipenu : IsA K c.pe c.nu false) (inuio : IsA K c.nu c.io false) (inuiw : IsA K c.nu c.iw false) (inuip : IsA K c.nu c.ip false) (inuia : IsA K c.nu c.ia false) (inucr : IsA K c.nu c.cr false) (inuca : IsA K c.nu c.ca false) (inucm : IsA K c.nu c.cm false) (inupe : IsA K c.nu c.pe false) (inunu : IsA K c.nu c.nu true) (h1 : D__law_cell P w K mg base) (h2 : D__law_raise P w K mg base c) (D : DefAt K mg "law" s_law) : D_law P w K mg base := by
  refine dn_of D sc_law bd_law (fun ds o ⟨_, h, _⟩ => by rw [h]; rfl) ?_
  rintro f cdv A outer st H E B _ _ ⟨sc, rfl, rfl⟩ hr po tk
  obtain ⟨m, em, hm⟩ : ∃ m : Nat, (cellAt sc 0) % 9 = (m : Int) ∧ m ≤ 8 := ⟨((cellAt sc 0) % 9).toNat, by omega, by omega⟩
  obtain ⟨C, eC, y, gm, gv, g0, g1, g2, g3, g4, g5, g6, g7, g8⟩ : ∃ C, wantC c m = C ∧ ExcC K C ∧ IsA K C c.me true ∧ IsB K C "ValueError" true ∧ IsA K C c.io (decide (0 = m)) ∧ IsA K C c.iw (decide (1 = m)) ∧ IsA K C c.ip (decide (2 = m)) ∧ IsA K C c.ia (decide (3 = m)) ∧ IsA K C c.cr (decide (4 = m)) ∧ IsA K C c.ca (decide (5 = m)) ∧ IsA K C c.cm (decide (6 = m)) ∧ IsA K C c.pe (decide (7 = m)) ∧ IsA K C c.nu (decide (8 = m)) := by
    match m, hm with
    | 0, _ => exact ⟨c.io, rfl, yio, mio, vio, iioio, iioiw, iioip, iioia, iiocr, iioca, iiocm, iiope, iionu⟩
    | 1, _ => exact ⟨c.iw, rfl, yiw, miw, viw, iiwio, iiwiw, iiwip, iiwia, iiwcr, iiwca, iiwcm, iiwpe, iiwnu⟩
    | 2, _ => exact ⟨c.ip, rfl, yip, mip, vip, iipio, iipiw, iipip, iipia, iipcr, iipca, iipcm, iippe, iipnu⟩
    | 3, _ => exact ⟨c.ia, rfl, yia, mia, via, iiaio, iiaiw, iiaip, iiaia, iiacr, iiaca, iiacm, iiape, iianu⟩
    | 4, _ => exact ⟨c.cr, rfl, ycr, mcr, vcr, icrio, icriw, icrip, icria, icrcr, icrca, icrcm, icrpe, icrnu⟩
    | 5, _ => exact ⟨c.ca, rfl, yca, mca, vca, icaio, icaiw, icaip, icaia, icacr, icaca, icacm, icape, icanu⟩
    | 6, _ => exact ⟨c.cm, rfl, ycm, mcm, vcm, icmio, icmiw, icmip, icmia, icmcr, icmca, icmcm, icmpe, icmnu⟩
    | 7, _ => exact ⟨c.pe, rfl, ype, mpe, vpe, ipeio, ipeiw, ipeip, ipeia, ipecr, ipeca, ipecm, ipepe, ipenu⟩
    | 8, _ => exact ⟨c.nu, rfl, ynu, mnu, vnu, inuio, inuiw, inuip, inuia, inucr, inuca, inucm, inupe, inunu⟩
  have hU := un65 hr
  have okL : okD (.list ((List.range 9).map fun t => PyData.bool (decide (t = m)))) = true := okD_of 2 (ok_list (ok_map (fun _ => ok_bool) _))
  refine sd_seq (sd_set (i := 1) sc_law.nd (d := encN m) (EV.to (ev_mod (ev_fn h1 (hr.mono (by decide)) (av_cons (ev_var 0) (av_one ev_int)) ⟨sc, 0, rfl, rfl⟩) ev_int (by decide)) (by rw [em])) ?_)
  refine sd_seq (sd_set (i := 2) sc_law.nd (d := .list []) (EVf.ev (ev_lst av_nil)) ?_)
  refine sd_seq (sd_set (i := 3) sc_law.nd (d := .bool false) ev_bl ?_)
  refine sd_seq (sd_set (i := 4) sc_law.nd (d := .str "none") ev_str ?_)
  refine sd_seq (sd_tryA (i := 5) rfl rfl sc_law.nd rfl rfl tk (hdn xme.g .nil) fun B' pn xe tk' po' => ?_)
  refine sd_one (sd_exprX (evx_fn tk' h2 (hr.mono (by decide)) (av_one (ev_var 1)) ⟨m, rfl, hm, rfl⟩) (fun d q => by cases q) fun C' l q => ?_)
  cases q
  rw [eC]
  refine .hit xme.g gm.x fun B2 q ob dd pn2 hd hz hf => ?_
  by_cases e7 : m = 7
  · subst e7
    have e2 : C = c.pe := eC.symm
    subst e2
    refine sd_dict 5 rfl fun d ed => ?_
    subst ed
    refine sd_seq (sd_set (i := 2) sc_law.nd (EVf.ev (ev_lst (av_cons (ev_isL 5 y hz hf bi.isi xio.g g0) (av_cons (ev_isL 5 y hz hf bi.isi xiw.g g1) (av_one (ev_isL 5 y hz hf bi.isi xip.g g2)))))) ?_)
    refine sd_seq (sd_set (i := 2) sc_law.nd (EVf.ev (ev_cat (EVP.o (ev_var 2)) (EVf.o (ev_lst (av_cons (ev_isL 5 y hz hf bi.isi xia.g g3) (av_cons (ev_isL 5 y hz hf bi.isi xcr.g g4) (av_one (ev_isL 5 y hz hf bi.isi xca.g g5)))))) (by show 6 ≤ sizeLine; decide))) ?_)
    refine sd_seq (sd_set (i := 2) sc_law.nd (EVf.ev (ev_cat (EVP.o (ev_var 2)) (EVf.o (ev_lst (av_cons (ev_isL 5 y hz hf bi.isi xcm.g g6) (av_cons (ev_isL 5 y hz hf bi.isi pr.gl g7) (av_one (ev_isL 5 y hz hf bi.isi xnu.g g8)))))) (by show 9 ≤ sizeLine; decide))) ?_)
    refine sd_seq (sd_set (i := 3) sc_law.nd (ev_isLB 5 y hz hf bi.isi vn bt_ve gv) ?_)
    refine sd_one (sd_set (i := 4) sc_law.nd (d := encN 1) (ev_if (tv_eqN (n := 7) hU (ev_var 1) ev_int) (fun _ => ev_line 5 pr.xf pr.no hz hf) (fun q => by cases q)) ?_)
    refine sd_one (sd_ret (EV.to (ev_and (ev_var 3) fun _ => ev_and (ev_eq (c := true) (un65 hr) (EVP.o (ev_var 4)) (EVP.o (ev_if (P := isD _ (encN 1)) (tv_eqN (n := 7) (un65 hr) (ev_var 1) ev_int) (fun _ => EV.to ev_int rfl) (fun q => by cases q))) okN okN (by decide +kernel)) fun _ => ev_one (ev_eq (c := true) (un65 hr) (EVP.o (EV.to (ev_var 2) (d' := .list ((List.range 9).map fun t => PyData.bool (decide (t = 7)))) rfl)) (EVo.to (EVf.o (ev_lc (own := [("at", 6)]) (xs := List.range 9) (f := encN) (g := fun t => PyData.bool (decide (t = 7))) (pr := fun _ => true) rfl sc_law.nd (by decide) (iv_rangeN bi (n := 9) ev_int (by decide)) (blkOk_by (N := N_law) (sc := defScope s_law) (by decide +kernel)) (fun _ _ _ _ _ _ _ => (gv_name (i := 6) sc_law.nd)) (fun _ _ _ _ _ _ _ => tvs_nil) (fun _ _ _ _ _ _ _ _ => ev_eqN (un65 hr) (ev_var 6) (ev_var 1)))) (d' := .list ((List.range 9).map fun t => PyData.bool (decide (t = 7)))) (by rw [filt_true])) okL okL (ok_self (ok_list (n := 1) (ok_map (fun _ => ok_bool) _))))) (d' := .bool true) rfl) rfl)
  · have el : wantLn m = none := if_neg e7
    rw [el] at hd ⊢
    cases hd rfl
    refine sd_seq (sd_set (i := 2) sc_law.nd (EVf.ev (ev_lst (av_cons (ev_isEg 5 y hz hf bi.isi xio.g g0) (av_cons (ev_isEg 5 y hz hf bi.isi xiw.g g1) (av_one (ev_isEg 5 y hz hf bi.isi xip.g g2)))))) ?_)
    refine sd_seq (sd_set (i := 2) sc_law.nd (EVf.ev (ev_cat (EVP.o (ev_var 2)) (EVf.o (ev_lst (av_cons (ev_isEg 5 y hz hf bi.isi xia.g g3) (av_cons (ev_isEg 5 y hz hf bi.isi xcr.g g4) (av_one (ev_isEg 5 y hz hf bi.isi xca.g g5)))))) (by show 6 ≤ sizeLine; decide))) ?_)
    refine sd_seq (sd_set (i := 2) sc_law.nd (EVf.ev (ev_cat (EVP.o (ev_var 2)) (EVf.o (ev_lst (av_cons (ev_isEg 5 y hz hf bi.isi xcm.g g6) (av_cons (ev_isEg 5 y hz hf bi.isi pr.gl g7) (av_one (ev_isEg 5 y hz hf bi.isi xnu.g g8)))))) (by show 9 ≤ sizeLine; decide))) ?_)
    refine sd_seq (sd_set (i := 3) sc_law.nd (ev_isEB 5 y hz hf bi.isi vn bt_ve gv) ?_)
    refine sd_one (sd_set (i := 4) sc_law.nd (d := .str "none") (ev_if (tv_eqN (n := 7) hU (ev_var 1) ev_int) (fun q => absurd (of_decide_eq_true q) e7) (fun _ => ev_str)) ?_)
    refine sd_one (sd_ret (EV.to (ev_and (ev_var 3) fun _ => ev_and (ev_eq (c := true) (un65 hr) (EVP.o (ev_var 4)) (EVP.o (ev_if (P := isD _ (.str "none")) (tv_eqN (n := 7) (un65 hr) (ev_var 1) ev_int) (fun q => absurd (of_decide_eq_true q) e7) (fun _ => ev_str))) (by decide +kernel) (by decide +kernel) (eqv_strS _)) fun _ => ev_one (ev_eq (c := true) (un65 hr) (EVP.o (EV.to (ev_var 2) (d' := .list ((List.range 9).map fun t => PyData.bool (decide (t = m)))) rfl)) (EVo.to (EVf.o (ev_lc (own := [("at", 6)]) (xs := List.range 9) (f := encN) (g := fun t => PyData.bool (decide (t = m))) (pr := fun _ => true) rfl sc_law.nd (by decide) (iv_rangeN bi (n := 9) ev_int (by decide)) (blkOk_by (N := N_law) (sc := defScope s_law) (by decide +kernel)) (fun _ _ _ _ _ _ _ => (gv_name (i := 6) sc_law.nd)) (fun _ _ _ _ _ _ _ => tvs_nil) (fun _ _ _ _ _ _ _ _ => ev_eqN (un65 hr) (ev_var 6) (ev_var 1)))) (d' := .list ((List.range 9).map fun t => PyData.bool (decide (t = m)))) (by rw [filt_true])) okL okL (ok_self (ok_list (n := 1) (ok_map (fun _ => ok_bool) _))))) (d' := .bool true) rfl) rfl)

end
end UP
namespace UP
open PySem PySem.Spec L2
theorem all_mk {P : Program} {w : World} {K : PySem.W.Frag} {h : Heap} {mg : Str → Option Value} {fa : Addr} (X : K.In h) (G : h.Ns mainGlobals mg) (hfa : mg "law" = some (.ref fa))
    {C_io : Addr} (a_io : PySem.W.nsIn K mainGlobals "InvalidOrder" = some (some (.ref C_io))) (x_io : PySem.W.excIn K C_io [.type "ValueError", .type "Exception", .type "BaseException", .type "object"] "ValueError.__new__" = true) (u_io : PySem.W.keepIn K (.ref C_io) = true) (b_io : PySem.W.subIn K (.ref C_io) (.type "BaseException") = some true) (t_io : PySem.W.typeIn K (.ref C_io) = some (.type "type"))
    {C_iw : Addr} (a_iw : PySem.W.nsIn K mainGlobals "InvalidWeights" = some (some (.ref C_iw))) (x_iw : PySem.W.excIn K C_iw [.type "ValueError", .type "Exception", .type "BaseException", .type "object"] "ValueError.__new__" = true) (u_iw : PySem.W.keepIn K (.ref C_iw) = true) (b_iw : PySem.W.subIn K (.ref C_iw) (.type "BaseException") = some true) (t_iw : PySem.W.typeIn K (.ref C_iw) = some (.type "type"))
    {C_ip : Addr} (a_ip : PySem.W.nsIn K mainGlobals "InvalidPoint" = some (some (.ref C_ip))) (x_ip : PySem.W.excIn K C_ip [.type "ValueError", .type "Exception", .type "BaseException", .type "object"] "ValueError.__new__" = true) (u_ip : PySem.W.keepIn K (.ref C_ip) = true) (b_ip : PySem.W.subIn K (.ref C_ip) (.type "BaseException") = some true) (t_ip : PySem.W.typeIn K (.ref C_ip) = some (.type "type"))
    {C_ia : Addr} (a_ia : PySem.W.nsIn K mainGlobals "InvalidAnswers" = some (some (.ref C_ia))) (x_ia : PySem.W.excIn K C_ia [.type "ValueError", .type "Exception", .type "BaseException", .type "object"] "ValueError.__new__" = true) (u_ia : PySem.W.keepIn K (.ref C_ia) = true) (b_ia : PySem.W.subIn K (.ref C_ia) (.type "BaseException") = some true) (t_ia : PySem.W.typeIn K (.ref C_ia) = some (.type "type"))
    {C_cr : Addr} (a_cr : PySem.W.nsIn K mainGlobals "CannotReach" = some (some (.ref C_cr))) (x_cr : PySem.W.excIn K C_cr [.type "ValueError", .type "Exception", .type "BaseException", .type "object"] "ValueError.__new__" = true) (u_cr : PySem.W.keepIn K (.ref C_cr) = true) (b_cr : PySem.W.subIn K (.ref C_cr) (.type "BaseException") = some true) (t_cr : PySem.W.typeIn K (.ref C_cr) = some (.type "type"))
    {C_ca : Addr} (a_ca : PySem.W.nsIn K mainGlobals "CanReach" = some (some (.ref C_ca))) (x_ca : PySem.W.excIn K C_ca [.type "ValueError", .type "Exception", .type "BaseException", .type "object"] "ValueError.__new__" = true) (u_ca : PySem.W.keepIn K (.ref C_ca) = true) (b_ca : PySem.W.subIn K (.ref C_ca) (.type "BaseException") = some true) (t_ca : PySem.W.typeIn K (.ref C_ca) = some (.type "type"))
    {C_me : Addr} (a_me : PySem.W.nsIn K mainGlobals "MoveError" = some (some (.ref C_me))) (x_me : PySem.W.excIn K C_me [.type "ValueError", .type "Exception", .type "BaseException", .type "object"] "ValueError.__new__" = true) (u_me : PySem.W.keepIn K (.ref C_me) = true) (b_me : PySem.W.subIn K (.ref C_me) (.type "BaseException") = some true) (t_me : PySem.W.typeIn K (.ref C_me) = some (.type "type"))
    {C_cm : Addr} (a_cm : PySem.W.nsIn K mainGlobals "CannotMove" = some (some (.ref C_cm))) (x_cm : PySem.W.excIn K C_cm [.type "ValueError", .type "Exception", .type "BaseException", .type "object"] "ValueError.__new__" = true) (u_cm : PySem.W.keepIn K (.ref C_cm) = true) (b_cm : PySem.W.subIn K (.ref C_cm) (.type "BaseException") = some true) (t_cm : PySem.W.typeIn K (.ref C_cm) = some (.type "type"))
    {C_nu : Addr} (a_nu : PySem.W.nsIn K mainGlobals "NothingToUndo" = some (some (.ref C_nu))) (x_nu : PySem.W.excIn K C_nu [.type "ValueError", .type "Exception", .type "BaseException", .type "object"] "ValueError.__new__" = true) (u_nu : PySem.W.keepIn K (.ref C_nu) = true) (b_nu : PySem.W.subIn K (.ref C_nu) (.type "BaseException") = some true) (t_nu : PySem.W.typeIn K (.ref C_nu) = some (.type "type"))
    {C_pe : Addr} (a_pe : PySem.W.nsIn K mainGlobals "ParseError" = some (some (.ref C_pe))) (u_pe : PySem.W.keepIn K (.ref C_pe) = true) (b_pe : PySem.W.subIn K (.ref C_pe) (.type "BaseException") = some true) (t_pe : PySem.W.typeIn K (.ref C_pe) = some (.type "type"))
    (yg_io : PySem.W.findIn K (.ref C_io) "__getattribute__" = some (some (.builtin "BaseException.__getattribute__"))) (yk_io : PySem.W.findIn K (.ref C_io) "__getattr__" = some none) (yd_io : PySem.W.hasDictIn K C_io = true) (ya_io : PySem.W.findIn K (.ref C_io) "__class__" = some (some (.builtin "object.__class__"))) (ym_io : PySem.W.mroIn K C_io (.type "object") = some true)
    (yg_iw : PySem.W.findIn K (.ref C_iw) "__getattribute__" = some (some (.builtin "BaseException.__getattribute__"))) (yk_iw : PySem.W.findIn K (.ref C_iw) "__getattr__" = some none) (yd_iw : PySem.W.hasDictIn K C_iw = true) (ya_iw : PySem.W.findIn K (.ref C_iw) "__class__" = some (some (.builtin "object.__class__"))) (ym_iw : PySem.W.mroIn K C_iw (.type "object") = some true)
    (yg_ip : PySem.W.findIn K (.ref C_ip) "__getattribute__" = some (some (.builtin "BaseException.__getattribute__"))) (yk_ip : PySem.W.findIn K (.ref C_ip) "__getattr__" = some none) (yd_ip : PySem.W.hasDictIn K C_ip = true) (ya_ip : PySem.W.findIn K (.ref C_ip) "__class__" = some (some (.builtin "object.__class__"))) (ym_ip : PySem.W.mroIn K C_ip (.type "object") = some true)
    (yg_ia : PySem.W.findIn K (.ref C_ia) "__getattribute__" = some (some (.builtin "BaseException.__getattribute__"))) (yk_ia : PySem.W.findIn K (.ref C_ia) "__getattr__" = some none) (yd_ia : PySem.W.hasDictIn K C_ia = true) (ya_ia : PySem.W.findIn K (.ref C_ia) "__class__" = some (some (.builtin "object.__class__"))) (ym_ia : PySem.W.mroIn K C_ia (.type "object") = some true)
    (yg_cr : PySem.W.findIn K (.ref C_cr) "__getattribute__" = some (some (.builtin "BaseException.__getattribute__"))) (yk_cr : PySem.W.findIn K (.ref C_cr) "__getattr__" = some none) (yd_cr : PySem.W.hasDictIn K C_cr = true) (ya_cr : PySem.W.findIn K (.ref C_cr) "__class__" = some (some (.builtin "object.__class__"))) (ym_cr : PySem.W.mroIn K C_cr (.type "object") = some true)
    (yg_ca : PySem.W.findIn K (.ref C_ca) "__getattribute__" = some (some (.builtin "BaseException.__getattribute__"))) (yk_ca : PySem.W.findIn K (.ref C_ca) "__getattr__" = some none) (yd_ca : PySem.W.hasDictIn K C_ca = true) (ya_ca : PySem.W.findIn K (.ref C_ca) "__class__" = some (some (.builtin "object.__class__"))) (ym_ca : PySem.W.mroIn K C_ca (.type "object") = some true)
    (yg_cm : PySem.W.findIn K (.ref C_cm) "__getattribute__" = some (some (.builtin "BaseException.__getattribute__"))) (yk_cm : PySem.W.findIn K (.ref C_cm) "__getattr__" = some none) (yd_cm : PySem.W.hasDictIn K C_cm = true) (ya_cm : PySem.W.findIn K (.ref C_cm) "__class__" = some (some (.builtin "object.__class__"))) (ym_cm : PySem.W.mroIn K C_cm (.type "object") = some true)
    (yg_pe : PySem.W.findIn K (.ref C_pe) "__getattribute__" = some (some (.builtin "BaseException.__getattribute__"))) (yk_pe : PySem.W.findIn K (.ref C_pe) "__getattr__" = some none) (yd_pe : PySem.W.hasDictIn K C_pe = true) (ya_pe : PySem.W.findIn K (.ref C_pe) "__class__" = some (some (.builtin "object.__class__"))) (ym_pe : PySem.W.mroIn K C_pe (.type "object") = some true)
    (yg_nu : PySem.W.findIn K (.ref C_nu) "__getattribute__" = some (some (.builtin "BaseException.__getattribute__"))) (yk_nu : PySem.W.findIn K (.ref C_nu) "__getattr__" = some none) (yd_nu : PySem.W.hasDictIn K C_nu = true) (ya_nu : PySem.W.findIn K (.ref C_nu) "__class__" = some (some (.builtin "object.__class__"))) (ym_nu : PySem.W.mroIn K C_nu (.type "object") = some true)
    (yn : PySem.W.specialIn K (.builtin "object.__class__") "__get__" = some (some (.builtin "getset_descriptor.__get__"))) (yt : PySem.W.takesIn K (.builtin "object.__class__") = some true)
    (ic_me : PySem.W.isClsIn K C_me = true) (is_me : PySem.W.subIn K (.ref C_me) (.ref C_me) = some true)
    (ic_io : PySem.W.isClsIn K C_io = true) (is_io : PySem.W.subIn K (.ref C_io) (.ref C_io) = some true)
    (ic_iw : PySem.W.isClsIn K C_iw = true) (is_iw : PySem.W.subIn K (.ref C_iw) (.ref C_iw) = some true)
    (ic_ip : PySem.W.isClsIn K C_ip = true) (is_ip : PySem.W.subIn K (.ref C_ip) (.ref C_ip) = some true)
    (ic_ia : PySem.W.isClsIn K C_ia = true) (is_ia : PySem.W.subIn K (.ref C_ia) (.ref C_ia) = some true)
    (ic_cr : PySem.W.isClsIn K C_cr = true) (is_cr : PySem.W.subIn K (.ref C_cr) (.ref C_cr) = some true)
    (ic_ca : PySem.W.isClsIn K C_ca = true) (is_ca : PySem.W.subIn K (.ref C_ca) (.ref C_ca) = some true)
    (ic_cm : PySem.W.isClsIn K C_cm = true) (is_cm : PySem.W.subIn K (.ref C_cm) (.ref C_cm) = some true)
    (ic_pe : PySem.W.isClsIn K C_pe = true) (is_pe : PySem.W.subIn K (.ref C_pe) (.ref C_pe) = some true)
    (ic_nu : PySem.W.isClsIn K C_nu = true) (is_nu : PySem.W.subIn K (.ref C_nu) (.ref C_nu) = some true)
    (ib_io_me : PySem.W.subIn K (.ref C_io) (.ref C_me) = some true)
    (ib_iw_me : PySem.W.subIn K (.ref C_iw) (.ref C_me) = some true)
    (ib_ip_me : PySem.W.subIn K (.ref C_ip) (.ref C_me) = some true)
    (ib_ia_me : PySem.W.subIn K (.ref C_ia) (.ref C_me) = some true)
    (ib_cr_me : PySem.W.subIn K (.ref C_cr) (.ref C_me) = some true)
    (ib_ca_me : PySem.W.subIn K (.ref C_ca) (.ref C_me) = some true)
    (ib_cm_me : PySem.W.subIn K (.ref C_cm) (.ref C_me) = some true)
    (ib_pe_me : PySem.W.subIn K (.ref C_pe) (.ref C_me) = some true)
    (ib_nu_me : PySem.W.subIn K (.ref C_nu) (.ref C_me) = some true)
    (ib_io_iw : PySem.W.subIn K (.ref C_io) (.ref C_iw) = some false)
    (ib_io_ip : PySem.W.subIn K (.ref C_io) (.ref C_ip) = some false)
    (ib_io_ia : PySem.W.subIn K (.ref C_io) (.ref C_ia) = some false)
    (ib_io_cr : PySem.W.subIn K (.ref C_io) (.ref C_cr) = some false)
    (ib_io_ca : PySem.W.subIn K (.ref C_io) (.ref C_ca) = some false)
    (ib_io_cm : PySem.W.subIn K (.ref C_io) (.ref C_cm) = some false)
    (ib_io_pe : PySem.W.subIn K (.ref C_io) (.ref C_pe) = some false)
    (ib_io_nu : PySem.W.subIn K (.ref C_io) (.ref C_nu) = some false)
    (ib_iw_io : PySem.W.subIn K (.ref C_iw) (.ref C_io) = some false)
    (ib_iw_ip : PySem.W.subIn K (.ref C_iw) (.ref C_ip) = some false)
    (ib_iw_ia : PySem.W.subIn K (.ref C_iw) (.ref C_ia) = some false)
    (ib_iw_cr : PySem.W.subIn K (.ref C_iw) (.ref C_cr) = some false)
    (ib_iw_ca : PySem.W.subIn K (.ref C_iw) (.ref C_ca) = some false)
    (ib_iw_cm : PySem.W.subIn K (.ref C_iw) (.ref C_cm) = some false)
    (ib_iw_pe : PySem.W.subIn K (.ref C_iw) (.ref C_pe) = some false)
    (ib_iw_nu : PySem.W.subIn K (.ref C_iw) (.ref C_nu) = some false)
    (ib_ip_io : PySem.W.subIn K (.ref C_ip) (.ref C_io) = some false)
    (ib_ip_iw : PySem.W.subIn K (.ref C_ip) (.ref C_iw) = some false)
    (ib_ip_ia : PySem.W.subIn K (.ref C_ip) (.ref C_ia) = some false)
    (ib_ip_cr : PySem.W.subIn K (.ref C_ip) (.ref C_cr) = some false)
    (ib_ip_ca : PySem.W.subIn K (.ref C_ip) (.ref C_ca) = some false)
    (ib_ip_cm : PySem.W.subIn K (.ref C_ip) (.ref C_cm) = some false)
    (ib_ip_pe : PySem.W.subIn K (.ref C_ip) (.ref C_pe) = some false)
    (ib_ip_nu : PySem.W.subIn K (.ref C_ip) (.ref C_nu) = some false)
    (ib_ia_io : PySem.W.subIn K (.ref C_ia) (.ref C_io) = some false)
    (ib_ia_iw : PySem.W.subIn K (.ref C_ia) (.ref C_iw) = some false)
    (ib_ia_ip : PySem.W.subIn K (.ref C_ia) (.ref C_ip) = some false)
    (ib_ia_cr : PySem.W.subIn K (.ref C_ia) (.ref C_cr) = some false)
    (ib_ia_ca : PySem.W.subIn K (.ref C_ia) (.ref C_ca) = some false)
    (ib_ia_cm : PySem.W.subIn K (.ref C_ia) (.ref C_cm) = some false)
    (ib_ia_pe : PySem.W.subIn K (.ref C_ia) (.ref C_pe) = some false)
    (ib_ia_nu : PySem.W.subIn K (.ref C_ia) (.ref C_nu) = some false)
    (ib_cr_io : PySem.W.subIn K (.ref C_cr) (.ref C_io) = some false)
    (ib_cr_iw : PySem.W.subIn K (.ref C_cr) (.ref C_iw) = some false)
    (ib_cr_ip : PySem.W.subIn K (.ref C_cr) (.ref C_ip) = some false)
    (ib_cr_ia : PySem.W.subIn K (.ref C_cr) (.ref C_ia) = some false)
    (ib_cr_ca : PySem.W.subIn K (.ref C_cr) (.ref C_ca) = some false)
    (ib_cr_cm : PySem.W.subIn K (.ref C_cr) (.ref C_cm) = some false)
    (ib_cr_pe : PySem.W.subIn K (.ref C_cr) (.ref C_pe) = some false)
    (ib_cr_nu : PySem.W.subIn K (.ref C_cr) (.ref C_nu) = some false)
    (ib_ca_io : PySem.W.subIn K (.ref C_ca) (.ref C_io) = some false)
    (ib_ca_iw : PySem.W.subIn K (.ref C_ca) (.ref C_iw) = some false)
    (ib_ca_ip : PySem.W.subIn K (.ref C_ca) (.ref C_ip) = some false)
    (ib_ca_ia : PySem.W.subIn K (.ref C_ca) (.ref C_ia) = some false)
    (ib_ca_cr : PySem.W.subIn K (.ref C_ca) (.ref C_cr) = some false)
    (ib_ca_cm : PySem.W.subIn K (.ref C_ca) (.ref C_cm) = some false)
    (ib_ca_pe : PySem.W.subIn K (.ref C_ca) (.ref C_pe) = some false)
    (ib_ca_nu : PySem.W.subIn K (.ref C_ca) (.ref C_nu) = some false)
    (ib_cm_io : PySem.W.subIn K (.ref C_cm) (.ref C_io) = some false)
    (ib_cm_iw : PySem.W.subIn K (.ref C_cm) (.ref C_iw) = some false)
    (ib_cm_ip : PySem.W.subIn K (.ref C_cm) (.ref C_ip) = some false)
    (ib_cm_ia : PySem.W.subIn K (.ref C_cm) (.ref C_ia) = some false)
    (ib_cm_cr : PySem.W.subIn K (.ref C_cm) (.ref C_cr) = some false)
    (ib_cm_ca : PySem.W.subIn K (.ref C_cm) (.ref C_ca) = some false)
    (ib_cm_pe : PySem.W.subIn K (.ref C_cm) (.ref C_pe) = some false)
    (ib_cm_nu : PySem.W.subIn K (.ref C_cm) (.ref C_nu) = some false)
    (ib_pe_io : PySem.W.subIn K (.ref C_pe) (.ref C_io) = some false)
    (ib_pe_iw : PySem.W.subIn K (.ref C_pe) (.ref C_iw) = some false)
    (ib_pe_ip : PySem.W.subIn K (.ref C_pe) (.ref C_ip) = some false)
    (ib_pe_ia : PySem.W.subIn K (.ref C_pe) (.ref C_ia) = some false)
    (ib_pe_cr : PySem.W.subIn K (.ref C_pe) (.ref C_cr) = some false)
    (ib_pe_ca : PySem.W.subIn K (.ref C_pe) (.ref C_ca) = some false)
    (ib_pe_cm : PySem.W.subIn K (.ref C_pe) (.ref C_cm) = some false)
    (ib_pe_nu : PySem.W.subIn K (.ref C_pe) (.ref C_nu) = some false)
    (ib_nu_io : PySem.W.subIn K (.ref C_nu) (.ref C_io) = some false)
    (ib_nu_iw : PySem.W.subIn K (.ref C_nu) (.ref C_iw) = some false)
    (ib_nu_ip : PySem.W.subIn K (.ref C_nu) (.ref C_ip) = some false)
    (ib_nu_ia : PySem.W.subIn K (.ref C_nu) (.ref C_ia) = some false)
    (ib_nu_cr : PySem.W.subIn K (.ref C_nu) (.ref C_cr) = some false)
    (ib_nu_ca : PySem.W.subIn K (.ref C_nu) (.ref C_ca) = some false)
    (ib_nu_cm : PySem.W.subIn K (.ref C_nu) (.ref C_cm) = some false)
    (ib_nu_pe : PySem.W.subIn K (.ref C_nu) (.ref C_pe) = some false)
    (sb_io_ValueError : PySem.W.subIn K (.ref C_io) (.type "ValueError") = some true)
    (sb_iw_ValueError : PySem.W.subIn K (.ref C_iw) (.type "ValueError") = some true)
    (sb_ip_ValueError : PySem.W.subIn K (.ref C_ip) (.type "ValueError") = some true)
    (sb_ia_ValueError : PySem.W.subIn K (.ref C_ia) (.type "ValueError") = some true)
    (sb_cr_ValueError : PySem.W.subIn K (.ref C_cr) (.type "ValueError") = some true)
    (sb_ca_ValueError : PySem.W.subIn K (.ref C_ca) (.type "ValueError") = some true)
    (sb_cm_ValueError : PySem.W.subIn K (.ref C_cm) (.type "ValueError") = some true)
    (sb_pe_ValueError : PySem.W.subIn K (.ref C_pe) (.type "ValueError") = some true)
    (sb_nu_ValueError : PySem.W.subIn K (.ref C_nu) (.type "ValueError") = some true)
    (zn_ValueError : PySem.W.nsIn K mainGlobals "ValueError" = some none)
    {w_MAX_POINTS : Tok} (a_MAX_POINTS : PySem.W.nsIn K mainGlobals "MAX_POINTS" = some (some (.int 6 w_MAX_POINTS)))
    {w_MAX_TOTAL : Tok} (a_MAX_TOTAL : PySem.W.nsIn K mainGlobals "MAX_TOTAL" = some (some (.int 9 w_MAX_TOTAL)))
    {w_DIGITS : Tok} (a_DIGITS : PySem.W.nsIn K mainGlobals "DIGITS" = some (some (.str digS w_DIGITS)))
    (z_isinstance : PySem.W.nsIn K mainGlobals "isinstance" = some none)
    (z_int : PySem.W.nsIn K mainGlobals "int" = some none)
    (z_bool : PySem.W.nsIn K mainGlobals "bool" = some none)
    (z_str : PySem.W.nsIn K mainGlobals "str" = some none)
    (z_tuple : PySem.W.nsIn K mainGlobals "tuple" = some none)
    (z_list : PySem.W.nsIn K mainGlobals "list" = some none)
    (z_len : PySem.W.nsIn K mainGlobals "len" = some none)
    (z_zip : PySem.W.nsIn K mainGlobals "zip" = some none)
    (z_enumerate : PySem.W.nsIn K mainGlobals "enumerate" = some none)
    (z_range : PySem.W.nsIn K mainGlobals "range" = some none)
    (z_sum : PySem.W.nsIn K mainGlobals "sum" = some none)
    (z_sorted : PySem.W.nsIn K mainGlobals "sorted" = some none)
    (z_set : PySem.W.nsIn K mainGlobals "set" = some none)
    (z_min : PySem.W.nsIn K mainGlobals "min" = some none)
    (z_max : PySem.W.nsIn K mainGlobals "max" = some none)
    {C_mv : Addr} (va : PySem.W.nsIn K mainGlobals "Mover" = some (some (.ref C_mv))) (vg : PySem.W.plainGet K C_mv Str.empty = true) (vd : PySem.W.hasDictIn K C_mv = true) (vo : PySem.W.plainOver K C_mv = true) (vs : PySem.W.findIn K (.ref C_mv) "__setattr__" = some (some (.builtin "object.__setattr__"))) (vm : PySem.W.makesIn K C_mv = true) (vk : PySem.W.keepIn K (.ref C_mv) = true) (v1 : PySem.W.findIn K (.ref C_mv) "order" = some none) (v2 : PySem.W.findIn K (.ref C_mv) "steps" = some none) (v3 : PySem.W.findIn K (.ref C_mv) "kept" = some none)
    (bs_me : PySem.W.specialIn K (.ref C_me) "__getattribute__" = some (some (.builtin "type.__getattribute__"))) (br_me : PySem.W.readsIn K C_me (.type "type") = true) (bf_me : PySem.W.findCls K (.ref C_me) (.type "type") "__init__" = some (.val (.builtin "ValueError.__init__")))
    {pnm pq : Str} {pN : Addr} {pbs : List Value} {psn : List Str} {psub : List Value} {pab : Bool} {pcol : Option Bool} {pdd : Option Addr} {pk0 pk1 pk2 pk3 pk5 : Option Value} (xL : K.lookup C_pe = some (excClassObj pnm pq C_pe pN pbs [.ref C_me, .type "ValueError", .type "Exception", .type "BaseException", .type "object"] true psn psub pab pcol pdd pk0 pk1 pk2 pk3 pk5 "ValueError.__new__"))
    (xs_pe : PySem.W.findIn K (.ref C_pe) "__setattr__" = some (some (.builtin "object.__setattr__"))) (xn_pe : PySem.W.findIn K (.ref C_pe) "line" = some none) (xg_pe : PySem.W.findIn K (.ref C_pe) "__getattribute__" = some (some (.builtin "BaseException.__getattribute__"))) (xh_pe : PySem.W.findIn K (.ref C_pe) "__getattr__" = some none) (xd_pe : PySem.W.hasDictIn K C_pe = true)
    {f_ParseError___init__ : Addr} {oc_ParseError___init__ kV_ParseError___init__ dc_ParseError___init__ pm_ParseError___init__ cd_ParseError___init__ ct_ParseError___init__ : Value} {od_ParseError___init__ an_ParseError___init__ : Option Addr} {sl_ParseError___init__ : Array (Option Value)} (a_ParseError___init__ : PySem.W.findIn K (.ref C_pe) "__init__" = some (some (.ref f_ParseError___init__)))
    (l_ParseError___init__ : K.lookup f_ParseError___init__ = some ⟨oc_ParseError___init__, od_ParseError___init__, .func (PySem.W.fnOf "__init__" "ParseError.__init__" (defArgs s_ParseError___init__) (defBody s_ParseError___init__) (defScope s_ParseError___init__) .none kV_ParseError___init__ dc_ParseError___init__ pm_ParseError___init__ an_ParseError___init__ cd_ParseError___init__ ct_ParseError___init__), sl_ParseError___init__⟩) (c_ParseError___init__ : PySem.W.codeIn K cd_ParseError___init__ "ParseError.__init__" = true) (k_ParseError___init__ : PySem.W.keepIn K (.ref f_ParseError___init__) = true) (i_ParseError___init__ : PySem.W.isFn K (.ref f_ParseError___init__) = true)
    {f_in_range : Addr} {oc_in_range kV_in_range dc_in_range pm_in_range cd_in_range ct_in_range : Value} {od_in_range an_in_range : Option Addr} {sl_in_range : Array (Option Value)} (a_in_range : PySem.W.nsIn K mainGlobals "in_range" = some (some (.ref f_in_range)))
    (l_in_range : K.lookup f_in_range = some ⟨oc_in_range, od_in_range, .func (PySem.W.fnOf "in_range" "in_range" (defArgs s_in_range) (defBody s_in_range) (defScope s_in_range) .none kV_in_range dc_in_range pm_in_range an_in_range cd_in_range ct_in_range), sl_in_range⟩) (c_in_range : PySem.W.codeIn K cd_in_range "in_range" = true) (k_in_range : PySem.W.keepIn K (.ref f_in_range) = true)
    {f_is_rising : Addr} {oc_is_rising kV_is_rising dc_is_rising pm_is_rising cd_is_rising ct_is_rising : Value} {od_is_rising an_is_rising : Option Addr} {sl_is_rising : Array (Option Value)} (a_is_rising : PySem.W.nsIn K mainGlobals "is_rising" = some (some (.ref f_is_rising)))
    (l_is_rising : K.lookup f_is_rising = some ⟨oc_is_rising, od_is_rising, .func (PySem.W.fnOf "is_rising" "is_rising" (defArgs s_is_rising) (defBody s_is_rising) (defScope s_is_rising) .none kV_is_rising dc_is_rising pm_is_rising an_is_rising cd_is_rising ct_is_rising), sl_is_rising⟩) (c_is_rising : PySem.W.codeIn K cd_is_rising "is_rising" = true) (k_is_rising : PySem.W.keepIn K (.ref f_is_rising) = true)
    {f_is_order : Addr} {oc_is_order kV_is_order dc_is_order pm_is_order cd_is_order ct_is_order : Value} {od_is_order an_is_order : Option Addr} {sl_is_order : Array (Option Value)} (a_is_order : PySem.W.nsIn K mainGlobals "is_order" = some (some (.ref f_is_order)))
    (l_is_order : K.lookup f_is_order = some ⟨oc_is_order, od_is_order, .func (PySem.W.fnOf "is_order" "is_order" (defArgs s_is_order) (defBody s_is_order) (defScope s_is_order) .none kV_is_order dc_is_order pm_is_order an_is_order cd_is_order ct_is_order), sl_is_order⟩) (c_is_order : PySem.W.codeIn K cd_is_order "is_order" = true) (k_is_order : PySem.W.keepIn K (.ref f_is_order) = true)
    {f_check_order : Addr} {oc_check_order kV_check_order dc_check_order pm_check_order cd_check_order ct_check_order : Value} {od_check_order an_check_order : Option Addr} {sl_check_order : Array (Option Value)} (a_check_order : PySem.W.nsIn K mainGlobals "check_order" = some (some (.ref f_check_order)))
    (l_check_order : K.lookup f_check_order = some ⟨oc_check_order, od_check_order, .func (PySem.W.fnOf "check_order" "check_order" (defArgs s_check_order) (defBody s_check_order) (defScope s_check_order) .none kV_check_order dc_check_order pm_check_order an_check_order cd_check_order ct_check_order), sl_check_order⟩) (c_check_order : PySem.W.codeIn K cd_check_order "check_order" = true) (k_check_order : PySem.W.keepIn K (.ref f_check_order) = true)
    {f_are_weights : Addr} {oc_are_weights kV_are_weights dc_are_weights pm_are_weights cd_are_weights ct_are_weights : Value} {od_are_weights an_are_weights : Option Addr} {sl_are_weights : Array (Option Value)} (a_are_weights : PySem.W.nsIn K mainGlobals "are_weights" = some (some (.ref f_are_weights)))
    (l_are_weights : K.lookup f_are_weights = some ⟨oc_are_weights, od_are_weights, .func (PySem.W.fnOf "are_weights" "are_weights" (defArgs s_are_weights) (defBody s_are_weights) (defScope s_are_weights) .none kV_are_weights dc_are_weights pm_are_weights an_are_weights cd_are_weights ct_are_weights), sl_are_weights⟩) (c_are_weights : PySem.W.codeIn K cd_are_weights "are_weights" = true) (k_are_weights : PySem.W.keepIn K (.ref f_are_weights) = true)
    {f_check_weights : Addr} {oc_check_weights kV_check_weights dc_check_weights pm_check_weights cd_check_weights ct_check_weights : Value} {od_check_weights an_check_weights : Option Addr} {sl_check_weights : Array (Option Value)} (a_check_weights : PySem.W.nsIn K mainGlobals "check_weights" = some (some (.ref f_check_weights)))
    (l_check_weights : K.lookup f_check_weights = some ⟨oc_check_weights, od_check_weights, .func (PySem.W.fnOf "check_weights" "check_weights" (defArgs s_check_weights) (defBody s_check_weights) (defScope s_check_weights) .none kV_check_weights dc_check_weights pm_check_weights an_check_weights cd_check_weights ct_check_weights), sl_check_weights⟩) (c_check_weights : PySem.W.codeIn K cd_check_weights "check_weights" = true) (k_check_weights : PySem.W.keepIn K (.ref f_check_weights) = true)
    {f_check_pair : Addr} {oc_check_pair kV_check_pair dc_check_pair pm_check_pair cd_check_pair ct_check_pair : Value} {od_check_pair an_check_pair : Option Addr} {sl_check_pair : Array (Option Value)} (a_check_pair : PySem.W.nsIn K mainGlobals "check_pair" = some (some (.ref f_check_pair)))
    (l_check_pair : K.lookup f_check_pair = some ⟨oc_check_pair, od_check_pair, .func (PySem.W.fnOf "check_pair" "check_pair" (defArgs s_check_pair) (defBody s_check_pair) (defScope s_check_pair) .none kV_check_pair dc_check_pair pm_check_pair an_check_pair cd_check_pair ct_check_pair), sl_check_pair⟩) (c_check_pair : PySem.W.codeIn K cd_check_pair "check_pair" = true) (k_check_pair : PySem.W.keepIn K (.ref f_check_pair) = true)
    {f_check_point : Addr} {oc_check_point kV_check_point dc_check_point pm_check_point cd_check_point ct_check_point : Value} {od_check_point an_check_point : Option Addr} {sl_check_point : Array (Option Value)} (a_check_point : PySem.W.nsIn K mainGlobals "check_point" = some (some (.ref f_check_point)))
    (l_check_point : K.lookup f_check_point = some ⟨oc_check_point, od_check_point, .func (PySem.W.fnOf "check_point" "check_point" (defArgs s_check_point) (defBody s_check_point) (defScope s_check_point) .none kV_check_point dc_check_point pm_check_point an_check_point cd_check_point ct_check_point), sl_check_point⟩) (c_check_point : PySem.W.codeIn K cd_check_point "check_point" = true) (k_check_point : PySem.W.keepIn K (.ref f_check_point) = true)
    {f_is_closed_set : Addr} {oc_is_closed_set kV_is_closed_set dc_is_closed_set pm_is_closed_set cd_is_closed_set ct_is_closed_set : Value} {od_is_closed_set an_is_closed_set : Option Addr} {sl_is_closed_set : Array (Option Value)} (a_is_closed_set : PySem.W.nsIn K mainGlobals "is_closed_set" = some (some (.ref f_is_closed_set)))
    (l_is_closed_set : K.lookup f_is_closed_set = some ⟨oc_is_closed_set, od_is_closed_set, .func (PySem.W.fnOf "is_closed_set" "is_closed_set" (defArgs s_is_closed_set) (defBody s_is_closed_set) (defScope s_is_closed_set) .none kV_is_closed_set dc_is_closed_set pm_is_closed_set an_is_closed_set cd_is_closed_set ct_is_closed_set), sl_is_closed_set⟩) (c_is_closed_set : PySem.W.codeIn K cd_is_closed_set "is_closed_set" = true) (k_is_closed_set : PySem.W.keepIn K (.ref f_is_closed_set) = true)
    {f_every_closed : Addr} {oc_every_closed kV_every_closed dc_every_closed pm_every_closed cd_every_closed ct_every_closed : Value} {od_every_closed an_every_closed : Option Addr} {sl_every_closed : Array (Option Value)} (a_every_closed : PySem.W.nsIn K mainGlobals "every_closed" = some (some (.ref f_every_closed)))
    (l_every_closed : K.lookup f_every_closed = some ⟨oc_every_closed, od_every_closed, .func (PySem.W.fnOf "every_closed" "every_closed" (defArgs s_every_closed) (defBody s_every_closed) (defScope s_every_closed) .none kV_every_closed dc_every_closed pm_every_closed an_every_closed cd_every_closed ct_every_closed), sl_every_closed⟩) (c_every_closed : PySem.W.codeIn K cd_every_closed "every_closed" = true) (k_every_closed : PySem.W.keepIn K (.ref f_every_closed) = true)
    {f_held : Addr} {oc_held kV_held dc_held pm_held cd_held ct_held : Value} {od_held an_held : Option Addr} {sl_held : Array (Option Value)} (a_held : PySem.W.nsIn K mainGlobals "held" = some (some (.ref f_held)))
    (l_held : K.lookup f_held = some ⟨oc_held, od_held, .func (PySem.W.fnOf "held" "held" (defArgs s_held) (defBody s_held) (defScope s_held) .none kV_held dc_held pm_held an_held cd_held ct_held), sl_held⟩) (c_held : PySem.W.codeIn K cd_held "held" = true) (k_held : PySem.W.keepIn K (.ref f_held) = true)
    {f_paper_of : Addr} {oc_paper_of kV_paper_of dc_paper_of pm_paper_of cd_paper_of ct_paper_of : Value} {od_paper_of an_paper_of : Option Addr} {sl_paper_of : Array (Option Value)} (a_paper_of : PySem.W.nsIn K mainGlobals "paper_of" = some (some (.ref f_paper_of)))
    (l_paper_of : K.lookup f_paper_of = some ⟨oc_paper_of, od_paper_of, .func (PySem.W.fnOf "paper_of" "paper_of" (defArgs s_paper_of) (defBody s_paper_of) (defScope s_paper_of) .none kV_paper_of dc_paper_of pm_paper_of an_paper_of cd_paper_of ct_paper_of), sl_paper_of⟩) (c_paper_of : PySem.W.codeIn K cd_paper_of "paper_of" = true) (k_paper_of : PySem.W.keepIn K (.ref f_paper_of) = true)
    {f_can_reach : Addr} {oc_can_reach kV_can_reach dc_can_reach pm_can_reach cd_can_reach ct_can_reach : Value} {od_can_reach an_can_reach : Option Addr} {sl_can_reach : Array (Option Value)} (a_can_reach : PySem.W.nsIn K mainGlobals "can_reach" = some (some (.ref f_can_reach)))
    (l_can_reach : K.lookup f_can_reach = some ⟨oc_can_reach, od_can_reach, .func (PySem.W.fnOf "can_reach" "can_reach" (defArgs s_can_reach) (defBody s_can_reach) (defScope s_can_reach) .none kV_can_reach dc_can_reach pm_can_reach an_can_reach cd_can_reach ct_can_reach), sl_can_reach⟩) (c_can_reach : PySem.W.codeIn K cd_can_reach "can_reach" = true) (k_can_reach : PySem.W.keepIn K (.ref f_can_reach) = true)
    {f_closed_sets : Addr} {oc_closed_sets kV_closed_sets dc_closed_sets pm_closed_sets cd_closed_sets ct_closed_sets : Value} {od_closed_sets an_closed_sets : Option Addr} {sl_closed_sets : Array (Option Value)} (a_closed_sets : PySem.W.nsIn K mainGlobals "closed_sets" = some (some (.ref f_closed_sets)))
    (l_closed_sets : K.lookup f_closed_sets = some ⟨oc_closed_sets, od_closed_sets, .func (PySem.W.fnOf "closed_sets" "closed_sets" (defArgs s_closed_sets) (defBody s_closed_sets) (defScope s_closed_sets) .none kV_closed_sets dc_closed_sets pm_closed_sets an_closed_sets cd_closed_sets ct_closed_sets), sl_closed_sets⟩) (c_closed_sets : PySem.W.codeIn K cd_closed_sets "closed_sets" = true) (k_closed_sets : PySem.W.keepIn K (.ref f_closed_sets) = true)
    {f_neighbors_above : Addr} {oc_neighbors_above kV_neighbors_above dc_neighbors_above pm_neighbors_above cd_neighbors_above ct_neighbors_above : Value} {od_neighbors_above an_neighbors_above : Option Addr} {sl_neighbors_above : Array (Option Value)} (a_neighbors_above : PySem.W.nsIn K mainGlobals "neighbors_above" = some (some (.ref f_neighbors_above)))
    (l_neighbors_above : K.lookup f_neighbors_above = some ⟨oc_neighbors_above, od_neighbors_above, .func (PySem.W.fnOf "neighbors_above" "neighbors_above" (defArgs s_neighbors_above) (defBody s_neighbors_above) (defScope s_neighbors_above) .none kV_neighbors_above dc_neighbors_above pm_neighbors_above an_neighbors_above cd_neighbors_above ct_neighbors_above), sl_neighbors_above⟩) (c_neighbors_above : PySem.W.codeIn K cd_neighbors_above "neighbors_above" = true) (k_neighbors_above : PySem.W.keepIn K (.ref f_neighbors_above) = true)
    {f_check_answers : Addr} {oc_check_answers kV_check_answers dc_check_answers pm_check_answers cd_check_answers ct_check_answers : Value} {od_check_answers an_check_answers : Option Addr} {sl_check_answers : Array (Option Value)} (a_check_answers : PySem.W.nsIn K mainGlobals "check_answers" = some (some (.ref f_check_answers)))
    (l_check_answers : K.lookup f_check_answers = some ⟨oc_check_answers, od_check_answers, .func (PySem.W.fnOf "check_answers" "check_answers" (defArgs s_check_answers) (defBody s_check_answers) (defScope s_check_answers) .none kV_check_answers dc_check_answers pm_check_answers an_check_answers cd_check_answers ct_check_answers), sl_check_answers⟩) (c_check_answers : PySem.W.codeIn K cd_check_answers "check_answers" = true) (k_check_answers : PySem.W.keepIn K (.ref f_check_answers) = true)
    {f_candidates : Addr} {oc_candidates kV_candidates dc_candidates pm_candidates cd_candidates ct_candidates : Value} {od_candidates an_candidates : Option Addr} {sl_candidates : Array (Option Value)} (a_candidates : PySem.W.nsIn K mainGlobals "candidates" = some (some (.ref f_candidates)))
    (l_candidates : K.lookup f_candidates = some ⟨oc_candidates, od_candidates, .func (PySem.W.fnOf "candidates" "candidates" (defArgs s_candidates) (defBody s_candidates) (defScope s_candidates) .none kV_candidates dc_candidates pm_candidates an_candidates cd_candidates ct_candidates), sl_candidates⟩) (c_candidates : PySem.W.codeIn K cd_candidates "candidates" = true) (k_candidates : PySem.W.keepIn K (.ref f_candidates) = true)
    {f_plan : Addr} {oc_plan kV_plan dc_plan pm_plan cd_plan ct_plan : Value} {od_plan an_plan : Option Addr} {sl_plan : Array (Option Value)} (a_plan : PySem.W.nsIn K mainGlobals "plan" = some (some (.ref f_plan)))
    (l_plan : K.lookup f_plan = some ⟨oc_plan, od_plan, .func (PySem.W.fnOf "plan" "plan" (defArgs s_plan) (defBody s_plan) (defScope s_plan) .none kV_plan dc_plan pm_plan an_plan cd_plan ct_plan), sl_plan⟩) (c_plan : PySem.W.codeIn K cd_plan "plan" = true) (k_plan : PySem.W.keepIn K (.ref f_plan) = true)
    {f_paper : Addr} {oc_paper kV_paper dc_paper pm_paper cd_paper ct_paper : Value} {od_paper an_paper : Option Addr} {sl_paper : Array (Option Value)} (a_paper : PySem.W.nsIn K mainGlobals "paper" = some (some (.ref f_paper)))
    (l_paper : K.lookup f_paper = some ⟨oc_paper, od_paper, .func (PySem.W.fnOf "paper" "paper" (defArgs s_paper) (defBody s_paper) (defScope s_paper) .none kV_paper dc_paper pm_paper an_paper cd_paper ct_paper), sl_paper⟩) (c_paper : PySem.W.codeIn K cd_paper "paper" = true) (k_paper : PySem.W.keepIn K (.ref f_paper) = true)
    {f_stepped : Addr} {oc_stepped kV_stepped dc_stepped pm_stepped cd_stepped ct_stepped : Value} {od_stepped an_stepped : Option Addr} {sl_stepped : Array (Option Value)} (a_stepped : PySem.W.nsIn K mainGlobals "stepped" = some (some (.ref f_stepped)))
    (l_stepped : K.lookup f_stepped = some ⟨oc_stepped, od_stepped, .func (PySem.W.fnOf "stepped" "stepped" (defArgs s_stepped) (defBody s_stepped) (defScope s_stepped) .none kV_stepped dc_stepped pm_stepped an_stepped cd_stepped ct_stepped), sl_stepped⟩) (c_stepped : PySem.W.codeIn K cd_stepped "stepped" = true) (k_stepped : PySem.W.keepIn K (.ref f_stepped) = true)
    {f_parse_weights : Addr} {oc_parse_weights kV_parse_weights dc_parse_weights pm_parse_weights cd_parse_weights ct_parse_weights : Value} {od_parse_weights an_parse_weights : Option Addr} {sl_parse_weights : Array (Option Value)} (a_parse_weights : PySem.W.nsIn K mainGlobals "parse_weights" = some (some (.ref f_parse_weights)))
    (l_parse_weights : K.lookup f_parse_weights = some ⟨oc_parse_weights, od_parse_weights, .func (PySem.W.fnOf "parse_weights" "parse_weights" (defArgs s_parse_weights) (defBody s_parse_weights) (defScope s_parse_weights) .none kV_parse_weights dc_parse_weights pm_parse_weights an_parse_weights cd_parse_weights ct_parse_weights), sl_parse_weights⟩) (c_parse_weights : PySem.W.codeIn K cd_parse_weights "parse_weights" = true) (k_parse_weights : PySem.W.keepIn K (.ref f_parse_weights) = true)
    {f_Mover___init__ : Addr} {oc_Mover___init__ kV_Mover___init__ dc_Mover___init__ pm_Mover___init__ cd_Mover___init__ ct_Mover___init__ : Value} {od_Mover___init__ an_Mover___init__ : Option Addr} {sl_Mover___init__ : Array (Option Value)} (a_Mover___init__ : PySem.W.findIn K (.ref C_mv) "__init__" = some (some (.ref f_Mover___init__)))
    (l_Mover___init__ : K.lookup f_Mover___init__ = some ⟨oc_Mover___init__, od_Mover___init__, .func (PySem.W.fnOf "__init__" "Mover.__init__" (defArgs s_Mover___init__) (defBody s_Mover___init__) (defScope s_Mover___init__) .none kV_Mover___init__ dc_Mover___init__ pm_Mover___init__ an_Mover___init__ cd_Mover___init__ ct_Mover___init__), sl_Mover___init__⟩) (c_Mover___init__ : PySem.W.codeIn K cd_Mover___init__ "Mover.__init__" = true) (k_Mover___init__ : PySem.W.keepIn K (.ref f_Mover___init__) = true) (i_Mover___init__ : PySem.W.isFn K (.ref f_Mover___init__) = true)
    {f_Mover_options : Addr} {oc_Mover_options kV_Mover_options dc_Mover_options pm_Mover_options cd_Mover_options ct_Mover_options : Value} {od_Mover_options an_Mover_options : Option Addr} {sl_Mover_options : Array (Option Value)} (a_Mover_options : PySem.W.findIn K (.ref C_mv) "options" = some (some (.ref f_Mover_options)))
    (l_Mover_options : K.lookup f_Mover_options = some ⟨oc_Mover_options, od_Mover_options, .func (PySem.W.fnOf "options" "Mover.options" (defArgs s_Mover_options) (defBody s_Mover_options) (defScope s_Mover_options) .none kV_Mover_options dc_Mover_options pm_Mover_options an_Mover_options cd_Mover_options ct_Mover_options), sl_Mover_options⟩) (c_Mover_options : PySem.W.codeIn K cd_Mover_options "Mover.options" = true) (k_Mover_options : PySem.W.keepIn K (.ref f_Mover_options) = true) (i_Mover_options : PySem.W.isFn K (.ref f_Mover_options) = true)
    {f_Mover_move : Addr} {oc_Mover_move kV_Mover_move dc_Mover_move pm_Mover_move cd_Mover_move ct_Mover_move : Value} {od_Mover_move an_Mover_move : Option Addr} {sl_Mover_move : Array (Option Value)} (a_Mover_move : PySem.W.findIn K (.ref C_mv) "move" = some (some (.ref f_Mover_move)))
    (l_Mover_move : K.lookup f_Mover_move = some ⟨oc_Mover_move, od_Mover_move, .func (PySem.W.fnOf "move" "Mover.move" (defArgs s_Mover_move) (defBody s_Mover_move) (defScope s_Mover_move) .none kV_Mover_move dc_Mover_move pm_Mover_move an_Mover_move cd_Mover_move ct_Mover_move), sl_Mover_move⟩) (c_Mover_move : PySem.W.codeIn K cd_Mover_move "Mover.move" = true) (k_Mover_move : PySem.W.keepIn K (.ref f_Mover_move) = true) (i_Mover_move : PySem.W.isFn K (.ref f_Mover_move) = true)
    {f_Mover_undo : Addr} {oc_Mover_undo kV_Mover_undo dc_Mover_undo pm_Mover_undo cd_Mover_undo ct_Mover_undo : Value} {od_Mover_undo an_Mover_undo : Option Addr} {sl_Mover_undo : Array (Option Value)} (a_Mover_undo : PySem.W.findIn K (.ref C_mv) "undo" = some (some (.ref f_Mover_undo)))
    (l_Mover_undo : K.lookup f_Mover_undo = some ⟨oc_Mover_undo, od_Mover_undo, .func (PySem.W.fnOf "undo" "Mover.undo" (defArgs s_Mover_undo) (defBody s_Mover_undo) (defScope s_Mover_undo) .none kV_Mover_undo dc_Mover_undo pm_Mover_undo an_Mover_undo cd_Mover_undo ct_Mover_undo), sl_Mover_undo⟩) (c_Mover_undo : PySem.W.codeIn K cd_Mover_undo "Mover.undo" = true) (k_Mover_undo : PySem.W.keepIn K (.ref f_Mover_undo) = true) (i_Mover_undo : PySem.W.isFn K (.ref f_Mover_undo) = true)
    {f__law_cell : Addr} {oc__law_cell kV__law_cell dc__law_cell pm__law_cell cd__law_cell ct__law_cell : Value} {od__law_cell an__law_cell : Option Addr} {sl__law_cell : Array (Option Value)} (a__law_cell : PySem.W.nsIn K mainGlobals "_law_cell" = some (some (.ref f__law_cell)))
    (l__law_cell : K.lookup f__law_cell = some ⟨oc__law_cell, od__law_cell, .func (PySem.W.fnOf "_law_cell" "_law_cell" (defArgs s__law_cell) (defBody s__law_cell) (defScope s__law_cell) .none kV__law_cell dc__law_cell pm__law_cell an__law_cell cd__law_cell ct__law_cell), sl__law_cell⟩) (c__law_cell : PySem.W.codeIn K cd__law_cell "_law_cell" = true) (k__law_cell : PySem.W.keepIn K (.ref f__law_cell) = true)
    {f__law_raise : Addr} {oc__law_raise kV__law_raise dc__law_raise pm__law_raise cd__law_raise ct__law_raise : Value} {od__law_raise an__law_raise : Option Addr} {sl__law_raise : Array (Option Value)} (a__law_raise : PySem.W.nsIn K mainGlobals "_law_raise" = some (some (.ref f__law_raise)))
    (l__law_raise : K.lookup f__law_raise = some ⟨oc__law_raise, od__law_raise, .func (PySem.W.fnOf "_law_raise" "_law_raise" (defArgs s__law_raise) (defBody s__law_raise) (defScope s__law_raise) .none kV__law_raise dc__law_raise pm__law_raise an__law_raise cd__law_raise ct__law_raise), sl__law_raise⟩) (c__law_raise : PySem.W.codeIn K cd__law_raise "_law_raise" = true) (k__law_raise : PySem.W.keepIn K (.ref f__law_raise) = true)
    {f_law : Addr} {oc_law kV_law dc_law pm_law cd_law ct_law : Value} {od_law an_law : Option Addr} {sl_law : Array (Option Value)} (a_law : PySem.W.nsIn K mainGlobals "law" = some (some (.ref f_law)))
    (l_law : K.lookup f_law = some ⟨oc_law, od_law, .func (PySem.W.fnOf "law" "law" (defArgs s_law) (defBody s_law) (defScope s_law) .none kV_law dc_law pm_law an_law cd_law ct_law), sl_law⟩) (c_law : PySem.W.codeIn K cd_law "law" = true) (k_law : PySem.W.keepIn K (.ref f_law) = true)
    : ∃ fd : FuncData, (∀ (s : Shared) (u : Value), BindsTo s fd ⟨[u], []⟩ [("script", u)]) ∧ ∀ base : Heap, K.In base → base.Ns mainGlobals mg → FnOk P w K mg base (L2.CX P w) 11 fa fd ["script"] (spF K R_law) := by
  let c : Cl := ⟨C_me, C_io, C_iw, C_ip, C_ia, C_cr, C_ca, C_cm, C_nu, C_pe⟩
  have q_io : ExcC1 K mg "InvalidOrder" c.io := exc_mk X G a_io x_io u_io b_io t_io
  have q_iw : ExcC1 K mg "InvalidWeights" c.iw := exc_mk X G a_iw x_iw u_iw b_iw t_iw
  have q_ip : ExcC1 K mg "InvalidPoint" c.ip := exc_mk X G a_ip x_ip u_ip b_ip t_ip
  have q_ia : ExcC1 K mg "InvalidAnswers" c.ia := exc_mk X G a_ia x_ia u_ia b_ia t_ia
  have q_cr : ExcC1 K mg "CannotReach" c.cr := exc_mk X G a_cr x_cr u_cr b_cr t_cr
  have q_ca : ExcC1 K mg "CanReach" c.ca := exc_mk X G a_ca x_ca u_ca b_ca t_ca
  have q_me : ExcC1 K mg "MoveError" c.me := exc_mk X G a_me x_me u_me b_me t_me
  have q_cm : ExcC1 K mg "CannotMove" c.cm := exc_mk X G a_cm x_cm u_cm b_cm t_cm
  have q_nu : ExcC1 K mg "NothingToUndo" c.nu := exc_mk X G a_nu x_nu u_nu b_nu t_nu
  have y_io : ExcC K c.io := ⟨yg_io, yk_io, b_io, yd_io, ya_io, yn, yt, ym_io⟩
  have y_iw : ExcC K c.iw := ⟨yg_iw, yk_iw, b_iw, yd_iw, ya_iw, yn, yt, ym_iw⟩
  have y_ip : ExcC K c.ip := ⟨yg_ip, yk_ip, b_ip, yd_ip, ya_ip, yn, yt, ym_ip⟩
  have y_ia : ExcC K c.ia := ⟨yg_ia, yk_ia, b_ia, yd_ia, ya_ia, yn, yt, ym_ia⟩
  have y_cr : ExcC K c.cr := ⟨yg_cr, yk_cr, b_cr, yd_cr, ya_cr, yn, yt, ym_cr⟩
  have y_ca : ExcC K c.ca := ⟨yg_ca, yk_ca, b_ca, yd_ca, ya_ca, yn, yt, ym_ca⟩
  have y_cm : ExcC K c.cm := ⟨yg_cm, yk_cm, b_cm, yd_cm, ya_cm, yn, yt, ym_cm⟩
  have y_pe : ExcC K c.pe := ⟨yg_pe, yk_pe, b_pe, yd_pe, ya_pe, yn, yt, ym_pe⟩
  have y_nu : ExcC K c.nu := ⟨yg_nu, yk_nu, b_nu, yd_nu, ya_nu, yn, yt, ym_nu⟩
  have i_io_me : IsA K c.io c.me true := isA_mk ib_io_me b_me t_me ic_me is_me
  have i_iw_me : IsA K c.iw c.me true := isA_mk ib_iw_me b_me t_me ic_me is_me
  have i_ip_me : IsA K c.ip c.me true := isA_mk ib_ip_me b_me t_me ic_me is_me
  have i_ia_me : IsA K c.ia c.me true := isA_mk ib_ia_me b_me t_me ic_me is_me
  have i_cr_me : IsA K c.cr c.me true := isA_mk ib_cr_me b_me t_me ic_me is_me
  have i_ca_me : IsA K c.ca c.me true := isA_mk ib_ca_me b_me t_me ic_me is_me
  have i_cm_me : IsA K c.cm c.me true := isA_mk ib_cm_me b_me t_me ic_me is_me
  have i_pe_me : IsA K c.pe c.me true := isA_mk ib_pe_me b_me t_me ic_me is_me
  have i_nu_me : IsA K c.nu c.me true := isA_mk ib_nu_me b_me t_me ic_me is_me
  have i_io_io : IsA K c.io c.io true := isA_mk is_io b_io t_io ic_io is_io
  have i_io_iw : IsA K c.io c.iw false := isA_mk ib_io_iw b_iw t_iw ic_iw is_iw
  have i_io_ip : IsA K c.io c.ip false := isA_mk ib_io_ip b_ip t_ip ic_ip is_ip
  have i_io_ia : IsA K c.io c.ia false := isA_mk ib_io_ia b_ia t_ia ic_ia is_ia
  have i_io_cr : IsA K c.io c.cr false := isA_mk ib_io_cr b_cr t_cr ic_cr is_cr
  have i_io_ca : IsA K c.io c.ca false := isA_mk ib_io_ca b_ca t_ca ic_ca is_ca
  have i_io_cm : IsA K c.io c.cm false := isA_mk ib_io_cm b_cm t_cm ic_cm is_cm
  have i_io_pe : IsA K c.io c.pe false := isA_mk ib_io_pe b_pe t_pe ic_pe is_pe
  have i_io_nu : IsA K c.io c.nu false := isA_mk ib_io_nu b_nu t_nu ic_nu is_nu
  have i_iw_io : IsA K c.iw c.io false := isA_mk ib_iw_io b_io t_io ic_io is_io
  have i_iw_iw : IsA K c.iw c.iw true := isA_mk is_iw b_iw t_iw ic_iw is_iw
  have i_iw_ip : IsA K c.iw c.ip false := isA_mk ib_iw_ip b_ip t_ip ic_ip is_ip
  have i_iw_ia : IsA K c.iw c.ia false := isA_mk ib_iw_ia b_ia t_ia ic_ia is_ia
  have i_iw_cr : IsA K c.iw c.cr false := isA_mk ib_iw_cr b_cr t_cr ic_cr is_cr
  have i_iw_ca : IsA K c.iw c.ca false := isA_mk ib_iw_ca b_ca t_ca ic_ca is_ca
  have i_iw_cm : IsA K c.iw c.cm false := isA_mk ib_iw_cm b_cm t_cm ic_cm is_cm
  have i_iw_pe : IsA K c.iw c.pe false := isA_mk ib_iw_pe b_pe t_pe ic_pe is_pe
  have i_iw_nu : IsA K c.iw c.nu false := isA_mk ib_iw_nu b_nu t_nu ic_nu is_nu
  have i_ip_io : IsA K c.ip c.io false := isA_mk ib_ip_io b_io t_io ic_io is_io
  have i_ip_iw : IsA K c.ip c.iw false := isA_mk ib_ip_iw b_iw t_iw ic_iw is_iw
  have i_ip_ip : IsA K c.ip c.ip true := isA_mk is_ip b_ip t_ip ic_ip is_ip
  have i_ip_ia : IsA K c.ip c.ia false := isA_mk ib_ip_ia b_ia t_ia ic_ia is_ia
  have i_ip_cr : IsA K c.ip c.cr false := isA_mk ib_ip_cr b_cr t_cr ic_cr is_cr
  have i_ip_ca : IsA K c.ip c.ca false := isA_mk ib_ip_ca b_ca t_ca ic_ca is_ca
  have i_ip_cm : IsA K c.ip c.cm false := isA_mk ib_ip_cm b_cm t_cm ic_cm is_cm
  have i_ip_pe : IsA K c.ip c.pe false := isA_mk ib_ip_pe b_pe t_pe ic_pe is_pe
  have i_ip_nu : IsA K c.ip c.nu false := isA_mk ib_ip_nu b_nu t_nu ic_nu is_nu
  have i_ia_io : IsA K c.ia c.io false := isA_mk ib_ia_io b_io t_io ic_io is_io
  have i_ia_iw : IsA K c.ia c.iw false := isA_mk ib_ia_iw b_iw t_iw ic_iw is_iw
  have i_ia_ip : IsA K c.ia c.ip false := isA_mk ib_ia_ip b_ip t_ip ic_ip is_ip
  have i_ia_ia : IsA K c.ia c.ia true := isA_mk is_ia b_ia t_ia ic_ia is_ia
  have i_ia_cr : IsA K c.ia c.cr false := isA_mk ib_ia_cr b_cr t_cr ic_cr is_cr
  have i_ia_ca : IsA K c.ia c.ca false := isA_mk ib_ia_ca b_ca t_ca ic_ca is_ca
  have i_ia_cm : IsA K c.ia c.cm false := isA_mk ib_ia_cm b_cm t_cm ic_cm is_cm
  have i_ia_pe : IsA K c.ia c.pe false := isA_mk ib_ia_pe b_pe t_pe ic_pe is_pe
  have i_ia_nu : IsA K c.ia c.nu false := isA_mk ib_ia_nu b_nu t_nu ic_nu is_nu
  have i_cr_io : IsA K c.cr c.io false := isA_mk ib_cr_io b_io t_io ic_io is_io
  have i_cr_iw : IsA K c.cr c.iw false := isA_mk ib_cr_iw b_iw t_iw ic_iw is_iw
  have i_cr_ip : IsA K c.cr c.ip false := isA_mk ib_cr_ip b_ip t_ip ic_ip is_ip
  have i_cr_ia : IsA K c.cr c.ia false := isA_mk ib_cr_ia b_ia t_ia ic_ia is_ia
  have i_cr_cr : IsA K c.cr c.cr true := isA_mk is_cr b_cr t_cr ic_cr is_cr
  have i_cr_ca : IsA K c.cr c.ca false := isA_mk ib_cr_ca b_ca t_ca ic_ca is_ca
  have i_cr_cm : IsA K c.cr c.cm false := isA_mk ib_cr_cm b_cm t_cm ic_cm is_cm
  have i_cr_pe : IsA K c.cr c.pe false := isA_mk ib_cr_pe b_pe t_pe ic_pe is_pe
  have i_cr_nu : IsA K c.cr c.nu false := isA_mk ib_cr_nu b_nu t_nu ic_nu is_nu
  have i_ca_io : IsA K c.ca c.io false := isA_mk ib_ca_io b_io t_io ic_io is_io
  have i_ca_iw : IsA K c.ca c.iw false := isA_mk ib_ca_iw b_iw t_iw ic_iw is_iw
  have i_ca_ip : IsA K c.ca c.ip false := isA_mk ib_ca_ip b_ip t_ip ic_ip is_ip
  have i_ca_ia : IsA K c.ca c.ia false := isA_mk ib_ca_ia b_ia t_ia ic_ia is_ia
  have i_ca_cr : IsA K c.ca c.cr false := isA_mk ib_ca_cr b_cr t_cr ic_cr is_cr
  have i_ca_ca : IsA K c.ca c.ca true := isA_mk is_ca b_ca t_ca ic_ca is_ca
  have i_ca_cm : IsA K c.ca c.cm false := isA_mk ib_ca_cm b_cm t_cm ic_cm is_cm
  have i_ca_pe : IsA K c.ca c.pe false := isA_mk ib_ca_pe b_pe t_pe ic_pe is_pe
  have i_ca_nu : IsA K c.ca c.nu false := isA_mk ib_ca_nu b_nu t_nu ic_nu is_nu
  have i_cm_io : IsA K c.cm c.io false := isA_mk ib_cm_io b_io t_io ic_io is_io
  have i_cm_iw : IsA K c.cm c.iw false := isA_mk ib_cm_iw b_iw t_iw ic_iw is_iw
  have i_cm_ip : IsA K c.cm c.ip false := isA_mk ib_cm_ip b_ip t_ip ic_ip is_ip
  have i_cm_ia : IsA K c.cm c.ia false := isA_mk ib_cm_ia b_ia t_ia ic_ia is_ia
  have i_cm_cr : IsA K c.cm c.cr false := isA_mk ib_cm_cr b_cr t_cr ic_cr is_cr
  have i_cm_ca : IsA K c.cm c.ca false := isA_mk ib_cm_ca b_ca t_ca ic_ca is_ca
  have i_cm_cm : IsA K c.cm c.cm true := isA_mk is_cm b_cm t_cm ic_cm is_cm
  have i_cm_pe : IsA K c.cm c.pe false := isA_mk ib_cm_pe b_pe t_pe ic_pe is_pe
  have i_cm_nu : IsA K c.cm c.nu false := isA_mk ib_cm_nu b_nu t_nu ic_nu is_nu
  have i_pe_io : IsA K c.pe c.io false := isA_mk ib_pe_io b_io t_io ic_io is_io
  have i_pe_iw : IsA K c.pe c.iw false := isA_mk ib_pe_iw b_iw t_iw ic_iw is_iw
  have i_pe_ip : IsA K c.pe c.ip false := isA_mk ib_pe_ip b_ip t_ip ic_ip is_ip
  have i_pe_ia : IsA K c.pe c.ia false := isA_mk ib_pe_ia b_ia t_ia ic_ia is_ia
  have i_pe_cr : IsA K c.pe c.cr false := isA_mk ib_pe_cr b_cr t_cr ic_cr is_cr
  have i_pe_ca : IsA K c.pe c.ca false := isA_mk ib_pe_ca b_ca t_ca ic_ca is_ca
  have i_pe_cm : IsA K c.pe c.cm false := isA_mk ib_pe_cm b_cm t_cm ic_cm is_cm
  have i_pe_pe : IsA K c.pe c.pe true := isA_mk is_pe b_pe t_pe ic_pe is_pe
  have i_pe_nu : IsA K c.pe c.nu false := isA_mk ib_pe_nu b_nu t_nu ic_nu is_nu
  have i_nu_io : IsA K c.nu c.io false := isA_mk ib_nu_io b_io t_io ic_io is_io
  have i_nu_iw : IsA K c.nu c.iw false := isA_mk ib_nu_iw b_iw t_iw ic_iw is_iw
  have i_nu_ip : IsA K c.nu c.ip false := isA_mk ib_nu_ip b_ip t_ip ic_ip is_ip
  have i_nu_ia : IsA K c.nu c.ia false := isA_mk ib_nu_ia b_ia t_ia ic_ia is_ia
  have i_nu_cr : IsA K c.nu c.cr false := isA_mk ib_nu_cr b_cr t_cr ic_cr is_cr
  have i_nu_ca : IsA K c.nu c.ca false := isA_mk ib_nu_ca b_ca t_ca ic_ca is_ca
  have i_nu_cm : IsA K c.nu c.cm false := isA_mk ib_nu_cm b_cm t_cm ic_cm is_cm
  have i_nu_pe : IsA K c.nu c.pe false := isA_mk ib_nu_pe b_pe t_pe ic_pe is_pe
  have i_nu_nu : IsA K c.nu c.nu true := isA_mk is_nu b_nu t_nu ic_nu is_nu
  have bi : BI mg := ⟨PySem.W.mg_none_of X G z_isinstance, PySem.W.mg_none_of X G z_int, PySem.W.mg_none_of X G z_bool, PySem.W.mg_none_of X G z_str, PySem.W.mg_none_of X G z_tuple, PySem.W.mg_none_of X G z_list, PySem.W.mg_none_of X G z_len, PySem.W.mg_none_of X G z_zip, PySem.W.mg_none_of X G z_enumerate, PySem.W.mg_none_of X G z_range, PySem.W.mg_none_of X G z_sum, PySem.W.mg_none_of X G z_sorted, PySem.W.mg_none_of X G z_set, PySem.W.mg_none_of X G z_min, PySem.W.mg_none_of X G z_max⟩
  have k_MAX_POINTS : ∃ t, mg "MAX_POINTS" = some (.int 6 t) := ⟨_, PySem.W.mg_of X G a_MAX_POINTS⟩
  have k_MAX_TOTAL : ∃ t, mg "MAX_TOTAL" = some (.int 9 t) := ⟨_, PySem.W.mg_of X G a_MAX_TOTAL⟩
  have k_DIGITS : ∃ t, mg "DIGITS" = some (.str digS t) := ⟨_, PySem.W.mg_of X G a_DIGITS⟩
  have bI_me : BaseI K c.me := ⟨bs_me, br_me, bf_me⟩
  have ox_pe : OexC K c.pe := ⟨⟨_, _, _, _, _, _, _, _, _, _, _, _, _, _, _, xL, rfl⟩, xs_pe, b_pe, t_pe, u_pe⟩
  have pi_pe : PeInit K mg c.pe s_ParseError___init__ := ⟨ox_pe, xn_pe, PySem.W.mg_of X G a_pe, f_ParseError___init__, _, fun_mk l_ParseError___init__ c_ParseError___init__ k_ParseError___init__, a_ParseError___init__, beq_iff_eq.mp i_ParseError___init__⟩
  have pr_pe : PeRead K mg c.pe := ⟨⟨xg_pe, xh_pe, b_pe, xd_pe⟩, xn_pe, PySem.W.mg_of X G a_pe⟩
  have ibb_io_ValueError : IsB K c.io "ValueError" true := isB_mk sb_io_ValueError (by decide +kernel)
  have ibb_iw_ValueError : IsB K c.iw "ValueError" true := isB_mk sb_iw_ValueError (by decide +kernel)
  have ibb_ip_ValueError : IsB K c.ip "ValueError" true := isB_mk sb_ip_ValueError (by decide +kernel)
  have ibb_ia_ValueError : IsB K c.ia "ValueError" true := isB_mk sb_ia_ValueError (by decide +kernel)
  have ibb_cr_ValueError : IsB K c.cr "ValueError" true := isB_mk sb_cr_ValueError (by decide +kernel)
  have ibb_ca_ValueError : IsB K c.ca "ValueError" true := isB_mk sb_ca_ValueError (by decide +kernel)
  have ibb_cm_ValueError : IsB K c.cm "ValueError" true := isB_mk sb_cm_ValueError (by decide +kernel)
  have ibb_pe_ValueError : IsB K c.pe "ValueError" true := isB_mk sb_pe_ValueError (by decide +kernel)
  have ibb_nu_ValueError : IsB K c.nu "ValueError" true := isB_mk sb_nu_ValueError (by decide +kernel)
  have nn_ValueError : mg "ValueError" = none := PySem.W.mg_none_of X G zn_ValueError
  have mva_Mover : mg "Mover" = some (.ref C_mv) := PySem.W.mg_of X G va
  have cm_Mover : ClsM K C_mv := ⟨⟨vg, vd, vo, vs⟩, v1, v2, v3⟩
  have n_Mover : InitAt K mg C_mv s_Mover___init__ := ⟨f_Mover___init__, _, fun_mk l_Mover___init__ c_Mover___init__ k_Mover___init__, ⟨vm, a_Mover___init__, i_Mover___init__, vk⟩, PySem.W.mg_of X G va⟩
  have m_Mover_options : MethAt K C_mv "options" "Mover.options" s_Mover_options := ⟨f_Mover_options, _, fun_mk l_Mover_options c_Mover_options k_Mover_options, ⟨a_Mover_options, i_Mover_options, k_Mover_options⟩⟩
  have m_Mover_move : MethAt K C_mv "move" "Mover.move" s_Mover_move := ⟨f_Mover_move, _, fun_mk l_Mover_move c_Mover_move k_Mover_move, ⟨a_Mover_move, i_Mover_move, k_Mover_move⟩⟩
  have m_Mover_undo : MethAt K C_mv "undo" "Mover.undo" s_Mover_undo := ⟨f_Mover_undo, _, fun_mk l_Mover_undo c_Mover_undo k_Mover_undo, ⟨a_Mover_undo, i_Mover_undo, k_Mover_undo⟩⟩
  have d_in_range : DefAt K mg "in_range" s_in_range := defAt_mk X G a_in_range l_in_range c_in_range k_in_range
  have d_is_rising : DefAt K mg "is_rising" s_is_rising := defAt_mk X G a_is_rising l_is_rising c_is_rising k_is_rising
  have d_is_order : DefAt K mg "is_order" s_is_order := defAt_mk X G a_is_order l_is_order c_is_order k_is_order
  have d_check_order : DefAt K mg "check_order" s_check_order := defAt_mk X G a_check_order l_check_order c_check_order k_check_order
  have d_are_weights : DefAt K mg "are_weights" s_are_weights := defAt_mk X G a_are_weights l_are_weights c_are_weights k_are_weights
  have d_check_weights : DefAt K mg "check_weights" s_check_weights := defAt_mk X G a_check_weights l_check_weights c_check_weights k_check_weights
  have d_check_pair : DefAt K mg "check_pair" s_check_pair := defAt_mk X G a_check_pair l_check_pair c_check_pair k_check_pair
  have d_check_point : DefAt K mg "check_point" s_check_point := defAt_mk X G a_check_point l_check_point c_check_point k_check_point
  have d_is_closed_set : DefAt K mg "is_closed_set" s_is_closed_set := defAt_mk X G a_is_closed_set l_is_closed_set c_is_closed_set k_is_closed_set
  have d_every_closed : DefAt K mg "every_closed" s_every_closed := defAt_mk X G a_every_closed l_every_closed c_every_closed k_every_closed
  have d_held : DefAt K mg "held" s_held := defAt_mk X G a_held l_held c_held k_held
  have d_paper_of : DefAt K mg "paper_of" s_paper_of := defAt_mk X G a_paper_of l_paper_of c_paper_of k_paper_of
  have d_can_reach : DefAt K mg "can_reach" s_can_reach := defAt_mk X G a_can_reach l_can_reach c_can_reach k_can_reach
  have d_closed_sets : DefAt K mg "closed_sets" s_closed_sets := defAt_mk X G a_closed_sets l_closed_sets c_closed_sets k_closed_sets
  have d_neighbors_above : DefAt K mg "neighbors_above" s_neighbors_above := defAt_mk X G a_neighbors_above l_neighbors_above c_neighbors_above k_neighbors_above
  have d_check_answers : DefAt K mg "check_answers" s_check_answers := defAt_mk X G a_check_answers l_check_answers c_check_answers k_check_answers
  have d_candidates : DefAt K mg "candidates" s_candidates := defAt_mk X G a_candidates l_candidates c_candidates k_candidates
  have d_plan : DefAt K mg "plan" s_plan := defAt_mk X G a_plan l_plan c_plan k_plan
  have d_paper : DefAt K mg "paper" s_paper := defAt_mk X G a_paper l_paper c_paper k_paper
  have d_stepped : DefAt K mg "stepped" s_stepped := defAt_mk X G a_stepped l_stepped c_stepped k_stepped
  have d_parse_weights : DefAt K mg "parse_weights" s_parse_weights := defAt_mk X G a_parse_weights l_parse_weights c_parse_weights k_parse_weights
  have d__law_cell : DefAt K mg "_law_cell" s__law_cell := defAt_mk X G a__law_cell l__law_cell c__law_cell k__law_cell
  have d__law_raise : DefAt K mg "_law_raise" s__law_raise := defAt_mk X G a__law_raise l__law_raise c__law_raise k__law_raise
  have d_law : DefAt K mg "law" s_law := defAt_mk X G a_law l_law c_law k_law
  refine law_end d_law bd_law hfa fun base => ?_
  have o_in_range := ok_in_range (P := P) (w := w) (mg := mg) (base := base) bi d_in_range
  have o_is_rising := ok_is_rising (P := P) (w := w) (mg := mg) (base := base) bi o_in_range d_is_rising
  have o_is_order := ok_is_order (P := P) (w := w) (mg := mg) (base := base) bi k_MAX_POINTS o_is_rising d_is_order
  have o_check_order := ok_check_order (P := P) (w := w) (mg := mg) (base := base) (c := c) q_io o_is_order d_check_order
  have o_are_weights := ok_are_weights (P := P) (w := w) (mg := mg) (base := base) bi k_MAX_TOTAL o_in_range d_are_weights
  have o_check_weights := ok_check_weights (P := P) (w := w) (mg := mg) (base := base) (c := c) q_iw o_check_order o_are_weights d_check_weights
  have o_check_pair := ok_check_pair (P := P) (w := w) (mg := mg) (base := base) (c := c) bi q_iw o_check_weights o_are_weights d_check_pair
  have o_check_point := ok_check_point (P := P) (w := w) (mg := mg) (base := base) (c := c) bi q_ip o_in_range d_check_point
  have o_is_closed_set := ok_is_closed_set (P := P) (w := w) (mg := mg) (base := base) d_is_closed_set
  have o_every_closed := ok_every_closed (P := P) (w := w) (mg := mg) (base := base) bi o_is_closed_set d_every_closed
  have o_held := ok_held (P := P) (w := w) (mg := mg) (base := base) bi d_held
  have o_paper_of := ok_paper_of (P := P) (w := w) (mg := mg) (base := base) bi o_every_closed o_held d_paper_of
  have o_can_reach := ok_can_reach (P := P) (w := w) (mg := mg) (base := base) (c := c) o_check_pair o_paper_of d_can_reach
  have o_closed_sets := ok_closed_sets (P := P) (w := w) (mg := mg) (base := base) (c := c) o_check_order d_closed_sets
  have o_neighbors_above := ok_neighbors_above (P := P) (w := w) (mg := mg) (base := base) (c := c) o_check_order o_check_point d_neighbors_above
  have o_check_answers := ok_check_answers (P := P) (w := w) (mg := mg) (base := base) (c := c) bi q_iw q_ia o_check_order o_in_range o_is_rising o_is_closed_set d_check_answers
  have o_candidates := ok_candidates (P := P) (w := w) (mg := mg) (base := base) (c := c) o_check_answers d_candidates
  have o_plan := ok_plan (P := P) (w := w) (mg := mg) (base := base) (c := c) q_cr o_check_pair o_paper_of d_plan
  have o_paper := ok_paper (P := P) (w := w) (mg := mg) (base := base) (c := c) q_ca o_check_pair o_paper_of d_paper
  have o_stepped := ok_stepped (P := P) (w := w) (mg := mg) (base := base) bi d_stepped
  have o_ParseError___init__ := ok_ParseError___init__ (P := P) (w := w) (mg := mg) (base := base) (c := c) q_me bI_me pi_pe
  have o_parse_weights := ok_parse_weights (P := P) (w := w) (mg := mg) (base := base) (c := c) bi k_DIGITS o_check_order o_are_weights o_ParseError___init__ d_parse_weights
  have o_Mover___init__ := ok_Mover___init__ (P := P) (w := w) (mg := mg) (base := base) (c := c) (mv := C_mv) cm_Mover o_check_weights n_Mover
  have o_Mover_options := ok_Mover_options (P := P) (w := w) (mg := mg) (base := base) (mv := C_mv) bi cm_Mover m_Mover_options
  have o_Mover_move := ok_Mover_move (P := P) (w := w) (mg := mg) (base := base) (c := c) (mv := C_mv) q_cm cm_Mover o_check_point o_stepped o_Mover_options m_Mover_move
  have o_Mover_undo := ok_Mover_undo (P := P) (w := w) (mg := mg) (base := base) (c := c) (mv := C_mv) bi q_nu cm_Mover m_Mover_undo
  have o__law_cell := ok__law_cell (P := P) (w := w) (mg := mg) (base := base) bi d__law_cell
  have o__law_raise := ok__law_raise (P := P) (w := w) (mg := mg) (base := base) (c := c) (mv := C_mv) cm_Mover o_closed_sets o_can_reach o_neighbors_above o_candidates o_plan o_paper o_Mover___init__ o_Mover_move o_parse_weights o_Mover_undo d__law_raise
  exact ok_law (P := P) (w := w) (mg := mg) (base := base) (c := c) bi nn_ValueError pr_pe q_me q_io y_io i_io_me ibb_io_ValueError q_iw y_iw i_iw_me ibb_iw_ValueError q_ip y_ip i_ip_me ibb_ip_ValueError q_ia y_ia i_ia_me ibb_ia_ValueError q_cr y_cr i_cr_me ibb_cr_ValueError q_ca y_ca i_ca_me ibb_ca_ValueError q_cm y_cm i_cm_me ibb_cm_ValueError y_pe i_pe_me ibb_pe_ValueError q_nu y_nu i_nu_me ibb_nu_ValueError i_io_io i_io_iw i_io_ip i_io_ia i_io_cr i_io_ca i_io_cm i_io_pe i_io_nu i_iw_io i_iw_iw i_iw_ip i_iw_ia i_iw_cr i_iw_ca i_iw_cm i_iw_pe i_iw_nu i_ip_io i_ip_iw i_ip_ip i_ip_ia i_ip_cr i_ip_ca i_ip_cm i_ip_pe i_ip_nu i_ia_io i_ia_iw i_ia_ip i_ia_ia i_ia_cr i_ia_ca i_ia_cm i_ia_pe i_ia_nu i_cr_io i_cr_iw i_cr_ip i_cr_ia i_cr_cr i_cr_ca i_cr_cm i_cr_pe i_cr_nu i_ca_io i_ca_iw i_ca_ip i_ca_ia i_ca_cr i_ca_ca i_ca_cm i_ca_pe i_ca_nu i_cm_io i_cm_iw i_cm_ip i_cm_ia i_cm_cr i_cm_ca i_cm_cm i_cm_pe i_cm_nu i_pe_io i_pe_iw i_pe_ip i_pe_ia i_pe_cr i_pe_ca i_pe_cm i_pe_pe i_pe_nu i_nu_io i_nu_iw i_nu_ip i_nu_ia i_nu_cr i_nu_ca i_nu_cm i_nu_pe i_nu_nu o__law_cell o__law_raise d_law
end UP
open PySem PySem.W PyProof.Rows
set_option maxHeartbeats 0 in
theorem PySem.Challenge.cw_upwardmoves_k12_exceptions_holds : PySem.Challenge.rw_upwardmoves_k12_exceptions.Holds := by
  w_on; o_law; k_head; (case hw => w_witness2)
  k_fill
  refine L2.walk_of (l := PySem.Challenge.rw_upwardmoves_k12_exceptions) (n := 63) (k := 11) (x := "script") (CX := fun w => L2.CX (PySem.Challenge.rw_upwardmoves_k12_exceptions).prog w) (sp := fun w => UP.spF _ UP.R_law) rfl (by decide) rfl ⟨rfl, by decide, by decide⟩ (fun w h Y => PySem.W.kIn_of Y) ?F (fun _ _ a ns hl _ hS => UP.law_sp hS) (fun w H s e s' q => UP.law_cx w H s e s' q)
  case F =>
    intro w mg fa h KX G hmg
    refine' UP.all_mk KX G hmg ?a_io ?x_io ?u_io ?b_io ?t_io ?a_iw ?x_iw ?u_iw ?b_iw ?t_iw ?a_ip ?x_ip ?u_ip ?b_ip ?t_ip ?a_ia ?x_ia ?u_ia ?b_ia ?t_ia ?a_cr ?x_cr ?u_cr ?b_cr ?t_cr ?a_ca ?x_ca ?u_ca ?b_ca ?t_ca ?a_me ?x_me ?u_me ?b_me ?t_me ?a_cm ?x_cm ?u_cm ?b_cm ?t_cm ?a_nu ?x_nu ?u_nu ?b_nu ?t_nu ?a_pe ?u_pe ?b_pe ?t_pe ?yg_io ?yk_io ?yd_io ?ya_io ?ym_io ?yg_iw ?yk_iw ?yd_iw ?ya_iw ?ym_iw ?yg_ip ?yk_ip ?yd_ip ?ya_ip ?ym_ip ?yg_ia ?yk_ia ?yd_ia ?ya_ia ?ym_ia ?yg_cr ?yk_cr ?yd_cr ?ya_cr ?ym_cr ?yg_ca ?yk_ca ?yd_ca ?ya_ca ?ym_ca ?yg_cm ?yk_cm ?yd_cm ?ya_cm ?ym_cm ?yg_pe ?yk_pe ?yd_pe ?ya_pe ?ym_pe ?yg_nu ?yk_nu ?yd_nu ?ya_nu ?ym_nu ?yn ?yt ?ic_me ?is_me ?ic_io ?is_io ?ic_iw ?is_iw ?ic_ip ?is_ip ?ic_ia ?is_ia ?ic_cr ?is_cr ?ic_ca ?is_ca ?ic_cm ?is_cm ?ic_pe ?is_pe ?ic_nu ?is_nu ?ib_io_me ?ib_iw_me ?ib_ip_me ?ib_ia_me ?ib_cr_me ?ib_ca_me ?ib_cm_me ?ib_pe_me ?ib_nu_me ?ib_io_iw ?ib_io_ip ?ib_io_ia ?ib_io_cr ?ib_io_ca ?ib_io_cm ?ib_io_pe ?ib_io_nu ?ib_iw_io ?ib_iw_ip ?ib_iw_ia ?ib_iw_cr ?ib_iw_ca ?ib_iw_cm ?ib_iw_pe ?ib_iw_nu ?ib_ip_io ?ib_ip_iw ?ib_ip_ia ?ib_ip_cr ?ib_ip_ca ?ib_ip_cm ?ib_ip_pe ?ib_ip_nu ?ib_ia_io ?ib_ia_iw ?ib_ia_ip ?ib_ia_cr ?ib_ia_ca ?ib_ia_cm ?ib_ia_pe ?ib_ia_nu ?ib_cr_io ?ib_cr_iw ?ib_cr_ip ?ib_cr_ia ?ib_cr_ca ?ib_cr_cm ?ib_cr_pe ?ib_cr_nu ?ib_ca_io ?ib_ca_iw ?ib_ca_ip ?ib_ca_ia ?ib_ca_cr ?ib_ca_cm ?ib_ca_pe ?ib_ca_nu ?ib_cm_io ?ib_cm_iw ?ib_cm_ip ?ib_cm_ia ?ib_cm_cr ?ib_cm_ca ?ib_cm_pe ?ib_cm_nu ?ib_pe_io ?ib_pe_iw ?ib_pe_ip ?ib_pe_ia ?ib_pe_cr ?ib_pe_ca ?ib_pe_cm ?ib_pe_nu ?ib_nu_io ?ib_nu_iw ?ib_nu_ip ?ib_nu_ia ?ib_nu_cr ?ib_nu_ca ?ib_nu_cm ?ib_nu_pe ?sb_io_ValueError ?sb_iw_ValueError ?sb_ip_ValueError ?sb_ia_ValueError ?sb_cr_ValueError ?sb_ca_ValueError ?sb_cm_ValueError ?sb_pe_ValueError ?sb_nu_ValueError ?zn_ValueError ?a_MAX_POINTS ?a_MAX_TOTAL ?a_DIGITS ?z_isinstance ?z_int ?z_bool ?z_str ?z_tuple ?z_list ?z_len ?z_zip ?z_enumerate ?z_range ?z_sum ?z_sorted ?z_set ?z_min ?z_max ?va ?vg ?vd ?vo ?vs ?vm ?vk ?v1 ?v2 ?v3 ?bs_me ?br_me ?bf_me ?xL ?xs_pe ?xn_pe ?xg_pe ?xh_pe ?xd_pe ?a_ParseError___init__ ?l_ParseError___init__ ?c_ParseError___init__ ?k_ParseError___init__ ?i_ParseError___init__ ?a_in_range ?l_in_range ?c_in_range ?k_in_range ?a_is_rising ?l_is_rising ?c_is_rising ?k_is_rising ?a_is_order ?l_is_order ?c_is_order ?k_is_order ?a_check_order ?l_check_order ?c_check_order ?k_check_order ?a_are_weights ?l_are_weights ?c_are_weights ?k_are_weights ?a_check_weights ?l_check_weights ?c_check_weights ?k_check_weights ?a_check_pair ?l_check_pair ?c_check_pair ?k_check_pair ?a_check_point ?l_check_point ?c_check_point ?k_check_point ?a_is_closed_set ?l_is_closed_set ?c_is_closed_set ?k_is_closed_set ?a_every_closed ?l_every_closed ?c_every_closed ?k_every_closed ?a_held ?l_held ?c_held ?k_held ?a_paper_of ?l_paper_of ?c_paper_of ?k_paper_of ?a_can_reach ?l_can_reach ?c_can_reach ?k_can_reach ?a_closed_sets ?l_closed_sets ?c_closed_sets ?k_closed_sets ?a_neighbors_above ?l_neighbors_above ?c_neighbors_above ?k_neighbors_above ?a_check_answers ?l_check_answers ?c_check_answers ?k_check_answers ?a_candidates ?l_candidates ?c_candidates ?k_candidates ?a_plan ?l_plan ?c_plan ?k_plan ?a_paper ?l_paper ?c_paper ?k_paper ?a_stepped ?l_stepped ?c_stepped ?k_stepped ?a_parse_weights ?l_parse_weights ?c_parse_weights ?k_parse_weights ?a_Mover___init__ ?l_Mover___init__ ?c_Mover___init__ ?k_Mover___init__ ?i_Mover___init__ ?a_Mover_options ?l_Mover_options ?c_Mover_options ?k_Mover_options ?i_Mover_options ?a_Mover_move ?l_Mover_move ?c_Mover_move ?k_Mover_move ?i_Mover_move ?a_Mover_undo ?l_Mover_undo ?c_Mover_undo ?k_Mover_undo ?i_Mover_undo ?a__law_cell ?l__law_cell ?c__law_cell ?k__law_cell ?a__law_raise ?l__law_raise ?c__law_raise ?k__law_raise ?a_law ?l_law ?c_law ?k_law
    (case a_io => k_is)
    (case x_io => k_exc)
    (case u_io => k_is)
    (case b_io => k_is)
    (case t_io => k_is)
    (case a_iw => k_is)
    (case x_iw => k_exc)
    (case u_iw => k_is)
    (case b_iw => k_is)
    (case t_iw => k_is)
    (case a_ip => k_is)
    (case x_ip => k_exc)
    (case u_ip => k_is)
    (case b_ip => k_is)
    (case t_ip => k_is)
    (case a_ia => k_is)
    (case x_ia => k_exc)
    (case u_ia => k_is)
    (case b_ia => k_is)
    (case t_ia => k_is)
    (case a_cr => k_is)
    (case x_cr => k_exc)
    (case u_cr => k_is)
    (case b_cr => k_is)
    (case t_cr => k_is)
    (case a_ca => k_is)
    (case x_ca => k_exc)
    (case u_ca => k_is)
    (case b_ca => k_is)
    (case t_ca => k_is)
    (case a_me => k_is)
    (case x_me => k_exc)
    (case u_me => k_is)
    (case b_me => k_is)
    (case t_me => k_is)
    (case a_cm => k_is)
    (case x_cm => k_exc)
    (case u_cm => k_is)
    (case b_cm => k_is)
    (case t_cm => k_is)
    (case a_nu => k_is)
    (case x_nu => k_exc)
    (case u_nu => k_is)
    (case b_nu => k_is)
    (case t_nu => k_is)
    (case a_pe => k_is)
    (case u_pe => k_is)
    (case b_pe => k_is)
    (case t_pe => k_is)
    (case yg_io => k_is)
    (case yk_io => k_is)
    (case yd_io => k_is)
    (case ya_io => k_is)
    (case ym_io => k_is)
    (case yg_iw => k_is)
    (case yk_iw => k_is)
    (case yd_iw => k_is)
    (case ya_iw => k_is)
    (case ym_iw => k_is)
    (case yg_ip => k_is)
    (case yk_ip => k_is)
    (case yd_ip => k_is)
    (case ya_ip => k_is)
    (case ym_ip => k_is)
    (case yg_ia => k_is)
    (case yk_ia => k_is)
    (case yd_ia => k_is)
    (case ya_ia => k_is)
    (case ym_ia => k_is)
    (case yg_cr => k_is)
    (case yk_cr => k_is)
    (case yd_cr => k_is)
    (case ya_cr => k_is)
    (case ym_cr => k_is)
    (case yg_ca => k_is)
    (case yk_ca => k_is)
    (case yd_ca => k_is)
    (case ya_ca => k_is)
    (case ym_ca => k_is)
    (case yg_cm => k_is)
    (case yk_cm => k_is)
    (case yd_cm => k_is)
    (case ya_cm => k_is)
    (case ym_cm => k_is)
    (case yg_pe => k_is)
    (case yk_pe => k_is)
    (case yd_pe => k_is)
    (case ya_pe => k_is)
    (case ym_pe => k_is)
    (case yg_nu => k_is)
    (case yk_nu => k_is)
    (case yd_nu => k_is)
    (case ya_nu => k_is)
    (case ym_nu => k_is)
    (case yn => k_is)
    (case yt => k_is)
    (case ic_me => k_is)
    (case is_me => first | rfl | k_is)
    (case ic_io => k_is)
    (case is_io => first | rfl | k_is)
    (case ic_iw => k_is)
    (case is_iw => first | rfl | k_is)
    (case ic_ip => k_is)
    (case is_ip => first | rfl | k_is)
    (case ic_ia => k_is)
    (case is_ia => first | rfl | k_is)
    (case ic_cr => k_is)
    (case is_cr => first | rfl | k_is)
    (case ic_ca => k_is)
    (case is_ca => first | rfl | k_is)
    (case ic_cm => k_is)
    (case is_cm => first | rfl | k_is)
    (case ic_pe => k_is)
    (case is_pe => first | rfl | k_is)
    (case ic_nu => k_is)
    (case is_nu => first | rfl | k_is)
    (case ib_io_me => k_is)
    (case ib_iw_me => k_is)
    (case ib_ip_me => k_is)
    (case ib_ia_me => k_is)
    (case ib_cr_me => k_is)
    (case ib_ca_me => k_is)
    (case ib_cm_me => k_is)
    (case ib_pe_me => k_is)
    (case ib_nu_me => k_is)
    (case ib_io_iw => k_is)
    (case ib_io_ip => k_is)
    (case ib_io_ia => k_is)
    (case ib_io_cr => k_is)
    (case ib_io_ca => k_is)
    (case ib_io_cm => k_is)
    (case ib_io_pe => k_is)
    (case ib_io_nu => k_is)
    (case ib_iw_io => k_is)
    (case ib_iw_ip => k_is)
    (case ib_iw_ia => k_is)
    (case ib_iw_cr => k_is)
    (case ib_iw_ca => k_is)
    (case ib_iw_cm => k_is)
    (case ib_iw_pe => k_is)
    (case ib_iw_nu => k_is)
    (case ib_ip_io => k_is)
    (case ib_ip_iw => k_is)
    (case ib_ip_ia => k_is)
    (case ib_ip_cr => k_is)
    (case ib_ip_ca => k_is)
    (case ib_ip_cm => k_is)
    (case ib_ip_pe => k_is)
    (case ib_ip_nu => k_is)
    (case ib_ia_io => k_is)
    (case ib_ia_iw => k_is)
    (case ib_ia_ip => k_is)
    (case ib_ia_cr => k_is)
    (case ib_ia_ca => k_is)
    (case ib_ia_cm => k_is)
    (case ib_ia_pe => k_is)
    (case ib_ia_nu => k_is)
    (case ib_cr_io => k_is)
    (case ib_cr_iw => k_is)
    (case ib_cr_ip => k_is)
    (case ib_cr_ia => k_is)
    (case ib_cr_ca => k_is)
    (case ib_cr_cm => k_is)
    (case ib_cr_pe => k_is)
    (case ib_cr_nu => k_is)
    (case ib_ca_io => k_is)
    (case ib_ca_iw => k_is)
    (case ib_ca_ip => k_is)
    (case ib_ca_ia => k_is)
    (case ib_ca_cr => k_is)
    (case ib_ca_cm => k_is)
    (case ib_ca_pe => k_is)
    (case ib_ca_nu => k_is)
    (case ib_cm_io => k_is)
    (case ib_cm_iw => k_is)
    (case ib_cm_ip => k_is)
    (case ib_cm_ia => k_is)
    (case ib_cm_cr => k_is)
    (case ib_cm_ca => k_is)
    (case ib_cm_pe => k_is)
    (case ib_cm_nu => k_is)
    (case ib_pe_io => k_is)
    (case ib_pe_iw => k_is)
    (case ib_pe_ip => k_is)
    (case ib_pe_ia => k_is)
    (case ib_pe_cr => k_is)
    (case ib_pe_ca => k_is)
    (case ib_pe_cm => k_is)
    (case ib_pe_nu => k_is)
    (case ib_nu_io => k_is)
    (case ib_nu_iw => k_is)
    (case ib_nu_ip => k_is)
    (case ib_nu_ia => k_is)
    (case ib_nu_cr => k_is)
    (case ib_nu_ca => k_is)
    (case ib_nu_cm => k_is)
    (case ib_nu_pe => k_is)
    (case sb_io_ValueError => k_is)
    (case sb_iw_ValueError => k_is)
    (case sb_ip_ValueError => k_is)
    (case sb_ia_ValueError => k_is)
    (case sb_cr_ValueError => k_is)
    (case sb_ca_ValueError => k_is)
    (case sb_cm_ValueError => k_is)
    (case sb_pe_ValueError => k_is)
    (case sb_nu_ValueError => k_is)
    (case zn_ValueError => k_is)
    (case a_MAX_POINTS => k_is)
    (case a_MAX_TOTAL => k_is)
    (case a_DIGITS => k_is)
    (case z_isinstance => k_is)
    (case z_int => k_is)
    (case z_bool => k_is)
    (case z_str => k_is)
    (case z_tuple => k_is)
    (case z_list => k_is)
    (case z_len => k_is)
    (case z_zip => k_is)
    (case z_enumerate => k_is)
    (case z_range => k_is)
    (case z_sum => k_is)
    (case z_sorted => k_is)
    (case z_set => k_is)
    (case z_min => k_is)
    (case z_max => k_is)
    (case va => k_is)
    (case vg => k_is)
    (case vd => k_is)
    (case vo => k_is)
    (case vs => k_is)
    (case vm => k_is)
    (case vk => k_is)
    (case v1 => k_is)
    (case v2 => k_is)
    (case v3 => k_is)
    (case bs_me => k_is)
    (case br_me => k_is)
    (case bf_me => k_is)
    (case xL => k_is)
    (case xs_pe => k_is)
    (case xn_pe => k_is)
    (case xg_pe => k_is)
    (case xh_pe => k_is)
    (case xd_pe => k_is)
    (case a_ParseError___init__ => k_is)
    (case l_ParseError___init__ => k_is)
    (case c_ParseError___init__ => k_is)
    (case k_ParseError___init__ => k_is)
    (case i_ParseError___init__ => k_is)
    (case a_in_range => k_is)
    (case l_in_range => k_is)
    (case c_in_range => k_is)
    (case k_in_range => k_is)
    (case a_is_rising => k_is)
    (case l_is_rising => k_is)
    (case c_is_rising => k_is)
    (case k_is_rising => k_is)
    (case a_is_order => k_is)
    (case l_is_order => k_is)
    (case c_is_order => k_is)
    (case k_is_order => k_is)
    (case a_check_order => k_is)
    (case l_check_order => k_is)
    (case c_check_order => k_is)
    (case k_check_order => k_is)
    (case a_are_weights => k_is)
    (case l_are_weights => k_is)
    (case c_are_weights => k_is)
    (case k_are_weights => k_is)
    (case a_check_weights => k_is)
    (case l_check_weights => k_is)
    (case c_check_weights => k_is)
    (case k_check_weights => k_is)
    (case a_check_pair => k_is)
    (case l_check_pair => k_is)
    (case c_check_pair => k_is)
    (case k_check_pair => k_is)
    (case a_check_point => k_is)
    (case l_check_point => k_is)
    (case c_check_point => k_is)
    (case k_check_point => k_is)
    (case a_is_closed_set => k_is)
    (case l_is_closed_set => k_is)
    (case c_is_closed_set => k_is)
    (case k_is_closed_set => k_is)
    (case a_every_closed => k_is)
    (case l_every_closed => k_is)
    (case c_every_closed => k_is)
    (case k_every_closed => k_is)
    (case a_held => k_is)
    (case l_held => k_is)
    (case c_held => k_is)
    (case k_held => k_is)
    (case a_paper_of => k_is)
    (case l_paper_of => k_is)
    (case c_paper_of => k_is)
    (case k_paper_of => k_is)
    (case a_can_reach => k_is)
    (case l_can_reach => k_is)
    (case c_can_reach => k_is)
    (case k_can_reach => k_is)
    (case a_closed_sets => k_is)
    (case l_closed_sets => k_is)
    (case c_closed_sets => k_is)
    (case k_closed_sets => k_is)
    (case a_neighbors_above => k_is)
    (case l_neighbors_above => k_is)
    (case c_neighbors_above => k_is)
    (case k_neighbors_above => k_is)
    (case a_check_answers => k_is)
    (case l_check_answers => k_is)
    (case c_check_answers => k_is)
    (case k_check_answers => k_is)
    (case a_candidates => k_is)
    (case l_candidates => k_is)
    (case c_candidates => k_is)
    (case k_candidates => k_is)
    (case a_plan => k_is)
    (case l_plan => k_is)
    (case c_plan => k_is)
    (case k_plan => k_is)
    (case a_paper => k_is)
    (case l_paper => k_is)
    (case c_paper => k_is)
    (case k_paper => k_is)
    (case a_stepped => k_is)
    (case l_stepped => k_is)
    (case c_stepped => k_is)
    (case k_stepped => k_is)
    (case a_parse_weights => k_is)
    (case l_parse_weights => k_is)
    (case c_parse_weights => k_is)
    (case k_parse_weights => k_is)
    (case a_Mover___init__ => k_is)
    (case l_Mover___init__ => k_is)
    (case c_Mover___init__ => k_is)
    (case k_Mover___init__ => k_is)
    (case i_Mover___init__ => k_is)
    (case a_Mover_options => k_is)
    (case l_Mover_options => k_is)
    (case c_Mover_options => k_is)
    (case k_Mover_options => k_is)
    (case i_Mover_options => k_is)
    (case a_Mover_move => k_is)
    (case l_Mover_move => k_is)
    (case c_Mover_move => k_is)
    (case k_Mover_move => k_is)
    (case i_Mover_move => k_is)
    (case a_Mover_undo => k_is)
    (case l_Mover_undo => k_is)
    (case c_Mover_undo => k_is)
    (case k_Mover_undo => k_is)
    (case i_Mover_undo => k_is)
    (case a__law_cell => k_is)
    (case l__law_cell => k_is)
    (case c__law_cell => k_is)
    (case k__law_cell => k_is)
    (case a__law_raise => k_is)
    (case l__law_raise => k_is)
    (case c__law_raise => k_is)
    (case k__law_raise => k_is)
    (case a_law => k_is)
    (case l_law => k_is)
    (case c_law => k_is)
    (case k_law => k_is)
#print axioms PySem.Challenge.cw_upwardmoves_k12_exceptions_holds
