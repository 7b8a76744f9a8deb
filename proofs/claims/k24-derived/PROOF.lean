import PyProof.Rows.All
import Wide.All
import OpenK.AllK
import Wide.FinOn
import HandS.ForMost
import HandS.Deep
import HandS.Wide
import HandS.Conv
import HandS.SortInts
import HandS.IsInst
import HandS.TupAny
import HandS.Style
import HandS.SetFor
import HandS.Replace
import HandS.Defaults
import HandS.HeadEnd
import KE.KTupSum
import HandS.Head0
import HandS.Head1
import HandS.Head2
import HandS.HeadHook1
import HandS.HeadHook2
import PySem.Challenge.RW_evenduties_k24_whole_rules_derived_as_th
set_option Elab.async false
set_option linter.all false
set_option maxRecDepth 100000
set_option exponentiation.threshold 10000
set_option maxHeartbeats 4000000
/-! The pure layer, part a: data, slots, the relation of a heap to an environment. -/
namespace PL
open PySem PySem.Spec PyProof.Rows L2

abbrev D := PyData
abbrev VSt := L2.St
/-- what is known of a name: nothing; a value; a list of one's own that is changed here; such a list of the caller's -/
inductive Sl where
  | un | val (d : D) | own (ds : List D) | ext (ds : List D)
def Sl.mut : Sl → Bool
  | .own _ => true
  | .ext _ => true
  | _ => false
abbrev En := List Sl

section
variable {K : PySem.W.Frag} {G G' G1 H H' H1 : Hp}
theorem sqT_mono {a : Addr} {xs : List V} (e : Same G G') (h : SqT K G a xs) : SqT K G' a xs := by
  rcases h with (h | ⟨o, h⟩) | h
  · exact .inl (.inl (e _ _ h))
  · exact .inl (.inr ⟨o, e _ _ h⟩)
  · exact .inr h
mutual
theorem dp_mono (e : Same G G') : ∀ (d : PyData) (v : V), Dp K G v d → Dp K G' v d
  | .none, _, h => by cases h; exact .non
  | .bool b, _, h => by cases h; exact .bl b
  | .int i, _, h => by cases h; exact .int i
  | .str x, _, h => by cases h; exact .str x
  | .list ds, _, h => by
    cases h with
    | lst hs ha => exact .lst (e.seq hs) (dpAll_mono e ds _ ha)
  | .tuple ds, _, h => by
    cases h with
    | tup hs ha => exact .tup (sqT_mono e hs) (dpAll_mono e ds _ ha)
  | .dict _, _, h => by cases h
theorem dpAll_mono (e : Same G G') : ∀ (ds : List PyData) (vs : List V), DpAll K G vs ds → DpAll K G' vs ds
  | [], _, h => by cases h; exact .nil
  | d :: ds, _, h => by
    cases h with
    | cons h1 h2 => exact .cons (dp_mono e d _ h1) (dpAll_mono e ds _ h2)
end
theorem DpAll.length : ∀ {ds : List PyData} {vs : List V}, DpAll K G vs ds → vs.length = ds.length
  | [], _, h => by cases h; rfl
  | d :: ds, _, h => by
    cases h with
    | cons h1 h2 => rw [List.length_cons, List.length_cons, DpAll.length h2]
theorem DpAll.get : ∀ {ds : List PyData} {vs : List V} {i : Nat} {d : PyData}, DpAll K G vs ds → ds[i]? = some d → ∃ v, vs[i]? = some v ∧ Dp K G v d
  | [], _, _, _, _, e => by simp at e
  | x :: ds, _, 0, d, h, e => by
    cases h with
    | cons h1 h2 => cases e; exact ⟨_, rfl, h1⟩
  | x :: ds, _, i + 1, d, h, e => by
    cases h with
    | cons h1 h2 =>
      obtain ⟨v, q1, q2⟩ := DpAll.get (i := i) h2 (by simpa using e)
      exact ⟨v, by simpa using q1, q2⟩
theorem DpAll.app : ∀ {ds es : List PyData} {vs ws : List V}, DpAll K G vs ds → DpAll K G ws es → DpAll K G (vs ++ ws) (ds ++ es)
  | [], _, _, _, h, k => by cases h; exact k
  | x :: ds, _, _, _, h, k => by
    cases h with
    | cons h1 h2 => exact .cons h1 (DpAll.app h2 k)
theorem DpAll.set : ∀ {ds : List PyData} {vs : List V} {v : V} {d : PyData} (i : Nat), DpAll K G vs ds → Dp K G v d → DpAll K G (vs.set i v) (ds.set i d)
  | [], _, _, _, _, h, _ => by cases h; exact .nil
  | x :: ds, _, _, _, 0, h, k => by
    cases h with
    | cons h1 h2 => exact .cons k h2
  | x :: ds, _, _, _, i + 1, h, k => by
    cases h with
    | cons h1 h2 => exact .cons h1 (DpAll.set i h2 k)
theorem DpAll.take : ∀ {ds : List PyData} {vs : List V} (n : Nat), DpAll K G vs ds → DpAll K G (vs.take n) (ds.take n)
  | _, _, 0, _ => .nil
  | [], _, n + 1, h => by cases h; exact .nil
  | x :: ds, _, n + 1, h => by
    cases h with
    | cons h1 h2 => exact .cons h1 (DpAll.take n h2)
theorem DpAll.drop : ∀ {ds : List PyData} {vs : List V} (n : Nat), DpAll K G vs ds → DpAll K G (vs.drop n) (ds.drop n)
  | _, _, 0, h => h
  | [], _, n + 1, h => by cases h; exact .nil
  | x :: ds, _, n + 1, h => by
    cases h with
    | cons h1 h2 => exact DpAll.drop n h2

/-- new objects only: G is the part that may be handed on -/
structure Gx (G H G' H' : Hp) : Prop where
  gg : Same G G'
  hh : Same H H'
  gh : Same G' H'
  fr : ∀ a, H a ≠ none → G a = none → G' a = none
theorem Gx.refl (s : Same G H) : Gx G H G H := ⟨.refl _, .refl _, s, fun _ _ h => h⟩
theorem ne_none_of {o : HO} {a : Addr} (e : H a = some o) : H a ≠ none := by rw [e]; exact fun z => nomatch z
theorem same_nn (s : Same H H') {a : Addr} (e : H a ≠ none) : H' a ≠ none := by
  cases q : H a with
  | none => exact absurd q e
  | some o => exact ne_none_of (s a o q)
theorem Gx.trans (x : Gx G H G1 H1) (y : Gx G1 H1 G' H') : Gx G H G' H' :=
  ⟨x.gg.trans y.gg, x.hh.trans y.hh, y.gh, fun a h g => y.fr a (same_nn x.hh h) (x.fr a h g)⟩
theorem same_upd {p : Addr} {o : HO} (h : H p = none) : Same H (upd H p o) := fun b x e => by
  rw [upd_ne (ne_of_none e h)]
  exact e
theorem same_upd2 (s : Same G H) (p : Addr) (o : HO) : Same (upd G p o) (upd H p o) := fun b x e => by
  by_cases h : b = p
  · subst h; rw [upd_same] at e ⊢; exact e
  · rw [upd_ne h] at e ⊢; exact s b x e
/-- a new object that may be handed on -/
theorem Gx.new (s : Same G H) {p : Addr} {o : HO} (h : H p = none) : Gx G H (upd G p o) (upd H p o) :=
  ⟨same_upd (s.free h), same_upd h, same_upd2 s p o, fun a q g => by
    rw [upd_ne (fun z => q (by rw [z]; exact h))]; exact g⟩
/-- a new object, kept aside -/
theorem Gx.aside (s : Same G H) {p : Addr} {o : HO} (h : H p = none) : Gx G H G (upd H p o) :=
  ⟨.refl _, same_upd h, s.trans (same_upd h), fun _ _ g => g⟩

/-- a slot's content -/
def At (K : PySem.W.Frag) (G H : Hp) : Sl → Option (Option V) → Prop
  | .un, _ => True
  | .val d, v => ∃ x, v = some (some x) ∧ Dp K G x d
  | .own ds, v => ∃ p xs, v = some (some (.ref p)) ∧ H p = some (.lst xs) ∧ DpAll K G xs ds ∧ G p = none
  | .ext ds, v => ∃ p xs, v = some (some (.ref p)) ∧ H p = some (.lst xs) ∧ DpAll K G xs ds ∧ G p = none
/-- the lists that may be changed here -/
def Ow (σ : VSt) (e : En) (a : Addr) : Prop := ∃ (i : Nat) (s : Sl), e[i]? = some s ∧ s.mut = true ∧ σ[i]? = some (some (.ref a))
structure R (K : PySem.W.Frag) (G H : Hp) (σ : VSt) (e : En) : Prop where
  gh : Same G H
  len : e.length = σ.length
  at_ : ∀ (i : Nat) (s : Sl), e[i]? = some s → At K G H s σ[i]?
  inj : ∀ (i j : Nat) (s t : Sl) (a : Addr), e[i]? = some s → e[j]? = some t → s.mut = true → t.mut = true → σ[i]? = some (some (.ref a)) → σ[j]? = some (some (.ref a)) → i = j
/-- what may have changed from one state to a later one -/
structure Fx (σ : VSt) (e : En) (G H : Hp) (σ' : VSt) (e' : En) (G' H' : Hp) : Prop where
  gg : Same G G'
  hh : ∀ a o, H a = some o → ¬ Ow σ e a → H' a = some o
  fr : ∀ a, H a ≠ none → ¬ Ow σ e a → G a = none → G' a = none
  mm : ∀ a, Ow σ' e' a → Ow σ e a ∨ H a = none
  nn : ∀ a, H a ≠ none → H' a ≠ none
  ke : ∀ (i : Nat) (ds : List D), e[i]? = some (.ext ds) → (∃ ds', e'[i]? = some (.ext ds')) ∧ σ'[i]? = σ[i]?
section
variable {σ σ' σ1 : VSt} {e e' e1 : En}
theorem Fx.refl : Fx σ e G H σ e G H := ⟨.refl _, fun _ _ h _ => h, fun _ _ _ h => h, fun _ h => .inl h, fun _ h => h, fun _ ds h => ⟨⟨ds, h⟩, rfl⟩⟩
theorem Fx.nm (x : Fx σ e G H σ1 e1 G1 H1) {a : Addr} (h : H a ≠ none) (n : ¬ Ow σ e a) : ¬ Ow σ1 e1 a := fun z => by
  rcases x.mm a z with q | q
  · exact n q
  · exact h q
theorem Fx.trans (x : Fx σ e G H σ1 e1 G1 H1) (y : Fx σ1 e1 G1 H1 σ' e' G' H') : Fx σ e G H σ' e' G' H' := by
  refine ⟨x.gg.trans y.gg, fun a o h n => y.hh a o (x.hh a o h n) (x.nm (ne_none_of h) n), fun a h n g => y.fr a (x.nn a h) (x.nm h n) (x.fr a h n g), fun a h => ?_, fun a h => y.nn a (x.nn a h), fun i ds h => ?_⟩
  · rcases y.mm a h with q | q
    · exact x.mm a q
    · refine .inr ?_
      cases q2 : H a with
      | none => rfl
      | some o => exact absurd q (x.nn a (ne_none_of q2))
  · obtain ⟨⟨ds1, h1⟩, k1⟩ := x.ke i ds h
    obtain ⟨h2, k2⟩ := y.ke i ds1 h1
    exact ⟨h2, k2.trans k1⟩
theorem Gx.fx (x : Gx G H G' H') : Fx σ e G H σ e G' H' :=
  ⟨x.gg, fun a o h _ => x.hh a o h, fun a h _ g => x.fr a h g, fun _ h => .inl h, fun _ h => same_nn x.hh h, fun _ ds h => ⟨⟨ds, h⟩, rfl⟩⟩
theorem At.gx {s : Sl} {v : Option (Option V)} (x : Gx G H G' H') (h : At K G H s v) : At K G' H' s v := by
  cases s with
  | un => exact h
  | val d => obtain ⟨y, q1, q2⟩ := h; exact ⟨y, q1, dp_mono x.gg _ _ q2⟩
  | own ds => obtain ⟨p, xs, q1, q2, q3, q4⟩ := h; exact ⟨p, xs, q1, x.hh _ _ q2, dpAll_mono x.gg _ _ q3, x.fr p (ne_none_of q2) q4⟩
  | ext ds => obtain ⟨p, xs, q1, q2, q3, q4⟩ := h; exact ⟨p, xs, q1, x.hh _ _ q2, dpAll_mono x.gg _ _ q3, x.fr p (ne_none_of q2) q4⟩
theorem R.gx (r : R K G H σ e) (x : Gx G H G' H') : R K G' H' σ e := ⟨x.gh, r.len, fun i s h => (r.at_ i s h).gx x, r.inj⟩
/-- a mutable slot's list -/
theorem R.mut_at (r : R K G H σ e) {i : Nat} {s : Sl} (h : e[i]? = some s) (m : s.mut = true) : ∃ p xs ds, (s = .own ds ∨ s = .ext ds) ∧ σ[i]? = some (some (.ref p)) ∧ H p = some (.lst xs) ∧ DpAll K G xs ds ∧ G p = none := by
  have q := r.at_ i s h
  cases s with
  | un => cases m
  | val d => cases m
  | own ds => obtain ⟨p, xs, q1, q2, q3, q4⟩ := q; exact ⟨p, xs, ds, .inl rfl, q1, q2, q3, q4⟩
  | ext ds => obtain ⟨p, xs, q1, q2, q3, q4⟩ := q; exact ⟨p, xs, ds, .inr rfl, q1, q2, q3, q4⟩
theorem Ow.lst (r : R K G H σ e) {a : Addr} (h : Ow σ e a) : ∃ xs, H a = some (.lst xs) ∧ G a = none := by
  obtain ⟨i, s, h1, h2, h3⟩ := h
  obtain ⟨p, xs, ds, _, q1, q2, _, q4⟩ := r.mut_at h1 h2
  rw [h3] at q1
  cases q1
  exact ⟨xs, q2, q4⟩
/-- a name gets a value -/
theorem R.set (r : R K G H σ e) {i : Nat} {v : V} {d : D} (h : Dp K G v d) : R K G H (σ.set i (some v)) (e.set i (.val d)) := by
  refine ⟨r.gh, by simpa using r.len, fun j s q => ?_, fun j k s t a q1 q2 m1 m2 p1 p2 => ?_⟩
  · by_cases hj : i = j
    · subst hj
      have hl : i < e.length := by have := (List.getElem?_eq_some_iff.mp q).1; simpa using this
      rw [List.getElem?_set_self hl] at q
      cases q
      exact ⟨v, List.getElem?_set_self (by rw [← r.len]; exact hl), h⟩
    · rw [List.getElem?_set_ne hj] at q
      rw [List.getElem?_set_ne hj]
      exact r.at_ j s q
  · have nj : ∀ {j : Nat} {s : Sl}, (e.set i (.val d))[j]? = some s → s.mut = true → i ≠ j := fun {j s} q m z => by
      subst z
      have hl : i < e.length := by have := (List.getElem?_eq_some_iff.mp q).1; simpa using this
      rw [List.getElem?_set_self hl] at q
      cases q
      cases m
    have n1 := nj q1 m1
    have n2 := nj q2 m2
    rw [List.getElem?_set_ne n1] at q1 p1
    rw [List.getElem?_set_ne n2] at q2 p2
    exact r.inj j k s t a q1 q2 m1 m2 p1 p2
theorem ow_set {i : Nat} {v : V} {d : D} {a : Addr} (h : Ow (σ.set i (some v)) (e.set i (.val d)) a) : Ow σ e a := by
  obtain ⟨j, s, q, m, p⟩ := h
  have n : i ≠ j := fun z => by
    subst z
    have hl : i < e.length := by have := (List.getElem?_eq_some_iff.mp q).1; simpa using this
    rw [List.getElem?_set_self hl] at q
    cases q
    cases m
  rw [List.getElem?_set_ne n] at q p
  exact ⟨j, s, q, m, p⟩
theorem Fx.set (i : Nat) (v : V) (d : D) (hn : ∀ ds, e[i]? ≠ some (.ext ds)) : Fx σ e G H (σ.set i (some v)) (e.set i (.val d)) G H :=
  ⟨.refl _, fun _ _ h _ => h, fun _ _ _ h => h, fun _ h => .inl (ow_set h), fun _ h => h, fun j ds h => by
    have n : i ≠ j := fun z => hn ds (by rw [z]; exact h)
    exact ⟨⟨ds, by rw [List.getElem?_set_ne n]; exact h⟩, List.getElem?_set_ne n⟩⟩
/-- a name gets a new list of its own -/
theorem R.setOwn (r : R K G H σ e) {i : Nat} {p : Addr} {xs : List V} {ds : List D} (hp : H p = some (.lst xs)) (hd : DpAll K G xs ds) (hg : G p = none) (ho : ¬ Ow σ e p) : R K G H (σ.set i (some (.ref p))) (e.set i (.own ds)) := by
  refine ⟨r.gh, by simpa using r.len, fun j s q => ?_, fun j k s t a q1 q2 m1 m2 p1 p2 => ?_⟩
  · by_cases hj : i = j
    · subst hj
      have hl : i < e.length := by have := (List.getElem?_eq_some_iff.mp q).1; simpa using this
      rw [List.getElem?_set_self hl] at q
      cases q
      exact ⟨p, xs, List.getElem?_set_self (by rw [← r.len]; exact hl), hp, hd, hg⟩
    · rw [List.getElem?_set_ne hj] at q
      rw [List.getElem?_set_ne hj]
      exact r.at_ j s q
  · have at_i : ∀ {s : Sl} {a : Addr}, (e.set i (.own ds))[i]? = some s → (σ.set i (some (.ref p)))[i]? = some (some (.ref a)) → a = p := fun {s a} q z => by
      have hl : i < e.length := by have := (List.getElem?_eq_some_iff.mp q).1; simpa using this
      rw [List.getElem?_set_self (by rw [← r.len]; exact hl)] at z
      cases z; rfl
    by_cases hj : i = j
    · subst hj
      by_cases hk : i = k
      · exact hk
      · have ea := at_i q1 p1
        subst ea
        rw [List.getElem?_set_ne hk] at q2 p2
        exact absurd ⟨k, t, q2, m2, p2⟩ ho
    · by_cases hk : i = k
      · subst hk
        have ea := at_i q2 p2
        subst ea
        rw [List.getElem?_set_ne hj] at q1 p1
        exact absurd ⟨j, s, q1, m1, p1⟩ ho
      · rw [List.getElem?_set_ne hj] at q1 p1
        rw [List.getElem?_set_ne hk] at q2 p2
        exact r.inj j k s t a q1 q2 m1 m2 p1 p2
theorem ow_setOwn {i : Nat} {p : Addr} {ds : List D} {a : Addr} (hl : e.length = σ.length) (h : Ow (σ.set i (some (.ref p))) (e.set i (.own ds)) a) : Ow σ e a ∨ a = p := by
  obtain ⟨j, s, q, m, z⟩ := h
  by_cases n : i = j
  · subst n
    have hl' : i < e.length := by have := (List.getElem?_eq_some_iff.mp q).1; simpa using this
    rw [List.getElem?_set_self (by rw [← hl]; exact hl')] at z
    cases z
    exact .inr rfl
  · rw [List.getElem?_set_ne n] at q z
    exact .inl ⟨j, s, q, m, z⟩
/-- a mutable list is changed in place -/
theorem R.write (r : R K G H σ e) {i : Nat} {s s' : Sl} {p : Addr} {xs xs' : List V} {ds' : List D} (h : e[i]? = some s) (m : s.mut = true) (hp : σ[i]? = some (some (.ref p))) (hs : (∃ ds, s = .own ds ∧ s' = .own ds') ∨ ∃ ds, s = .ext ds ∧ s' = .ext ds')
    (hd : DpAll K G xs' ds') : R K G (upd H p (.lst xs')) σ (e.set i s') := by
  obtain ⟨p', xs0, ds0, _, q1, q2, q3, q4⟩ := r.mut_at h m
  rw [hp] at q1
  cases q1
  have gh : Same G (upd H p (.lst xs')) := fun b o z => by
    rw [upd_ne (fun y => by rw [y, q4] at z; cases z)]
    exact r.gh b o z
  have hl : i < e.length := (List.getElem?_eq_some_iff.mp h).1
  have m' : s'.mut = true := by
    rcases hs with ⟨_, _, rfl⟩ | ⟨_, _, rfl⟩ <;> rfl
  have sub : ∀ {j : Nat} {t : Sl}, (e.set i s')[j]? = some t → t.mut = true → ∃ t0, e[j]? = some t0 ∧ t0.mut = true := fun {j t} q mt => by
    by_cases hj : i = j
    · subst hj; exact ⟨s, h, m⟩
    · rw [List.getElem?_set_ne hj] at q; exact ⟨t, q, mt⟩
  refine ⟨gh, by simpa using r.len, fun j t q => ?_, fun j k t u a z1 z2 m1 m2 y1 y2 => ?_⟩
  · by_cases hj : i = j
    · subst hj
      rw [List.getElem?_set_self hl] at q
      cases q
      rcases hs with ⟨_, _, rfl⟩ | ⟨_, _, rfl⟩
      · exact ⟨p, xs', hp, upd_same, hd, q4⟩
      · exact ⟨p, xs', hp, upd_same, hd, q4⟩
    · rw [List.getElem?_set_ne hj] at q
      have z := r.at_ j t q
      have nep : ∀ {b : Addr}, t.mut = true → σ[j]? = some (some (.ref b)) → b ≠ p := fun {b} mt yb y => by
        subst y
        exact hj (r.inj i j s t b h q m mt hp yb)
      cases t with
      | un => exact z
      | val d => exact z
      | own ds => obtain ⟨b, ys, z1, z2, z3, z4⟩ := z; exact ⟨b, ys, z1, by rw [upd_ne (nep rfl z1)]; exact z2, z3, z4⟩
      | ext ds => obtain ⟨b, ys, z1, z2, z3, z4⟩ := z; exact ⟨b, ys, z1, by rw [upd_ne (nep rfl z1)]; exact z2, z3, z4⟩
  · obtain ⟨t0, w1, w2⟩ := sub z1 m1
    obtain ⟨u0, w3, w4⟩ := sub z2 m2
    exact r.inj j k t0 u0 a w1 w3 w2 w4 y1 y2
theorem Fx.write {i : Nat} {s s' : Sl} {p : Addr} {xs' : List V} {ds' : List D} (h : e[i]? = some s) (m : s.mut = true) (hp : σ[i]? = some (some (.ref p))) (hs : (∃ ds, s = .own ds ∧ s' = .own ds') ∨ ∃ ds, s = .ext ds ∧ s' = .ext ds') :
    Fx σ e G H σ (e.set i s') G (upd H p (.lst xs')) := by
  have hl : i < e.length := (List.getElem?_eq_some_iff.mp h).1
  refine ⟨.refl _, fun a o z n => ?_, fun _ _ _ z => z, fun a z => .inl ?_, fun a z => ?_, fun j ds z => ?_⟩
  · rw [upd_ne (fun y => n (by rw [y]; exact ⟨i, s, h, m, hp⟩))]
    exact z
  · obtain ⟨j, t, q, mt, y⟩ := z
    by_cases hj : i = j
    · subst hj; exact ⟨i, s, h, m, y⟩
    · rw [List.getElem?_set_ne hj] at q; exact ⟨j, t, q, mt, y⟩
  · by_cases y : a = p
    · rw [y, upd_same]; exact fun t => nomatch t
    · rw [upd_ne y]; exact z
  · by_cases hj : i = j
    · subst hj
      rw [h] at z
      cases z
      rcases hs with ⟨_, q, _⟩ | ⟨_, _, rfl⟩
      · cases q
      · exact ⟨⟨ds', List.getElem?_set_self hl⟩, rfl⟩
    · exact ⟨⟨ds, by rw [List.getElem?_set_ne hj]; exact z⟩, rfl⟩
/-- an own list is handed on: it may not be changed any more -/
theorem R.freeze (r : R K G H σ e) {i : Nat} {ds : List D} {p : Addr} {xs : List V} (h : e[i]? = some (.own ds)) (hp : σ[i]? = some (some (.ref p))) (hx : H p = some (.lst xs)) (hd : DpAll K G xs ds) (hg : G p = none) :
    R K (upd G p (.lst xs)) H σ (e.set i (.val (.list ds))) ∧ Fx σ e G H σ (e.set i (.val (.list ds))) (upd G p (.lst xs)) H ∧ Dp K (upd G p (.lst xs)) (.ref p) (.list ds) := by
  have hl : i < e.length := (List.getElem?_eq_some_iff.mp h).1
  have sg : Same G (upd G p (.lst xs)) := same_upd hg
  have dd : Dp K (upd G p (.lst xs)) (.ref p) (.list ds) := .lst (SqL.of upd_same) (dpAll_mono sg _ _ hd)
  have back : ∀ {j : Nat} {t : Sl}, (e.set i (.val (.list ds)))[j]? = some t → t.mut = true → i ≠ j ∧ e[j]? = some t := fun {j t} q mt => by
    by_cases hj : i = j
    · subst hj; rw [List.getElem?_set_self hl] at q; cases q; cases mt
    · rw [List.getElem?_set_ne hj] at q; exact ⟨hj, q⟩
  refine ⟨⟨fun b o z => ?_, by simpa using r.len, fun j t q => ?_, fun j k t u a z1 z2 m1 m2 y1 y2 => ?_⟩, ⟨sg, fun _ _ z _ => z, fun a z n g => ?_, fun a z => .inl ?_, fun _ z => z, fun j es z => ?_⟩, dd⟩
  · by_cases hb : b = p
    · subst hb; rw [upd_same] at z; cases z; exact hx
    · rw [upd_ne hb] at z; exact r.gh b o z
  · by_cases hj : i = j
    · subst hj
      rw [List.getElem?_set_self hl] at q
      cases q
      exact ⟨_, hp, dd⟩
    · rw [List.getElem?_set_ne hj] at q
      have z := r.at_ j t q
      have nep : ∀ {b : Addr}, t.mut = true → σ[j]? = some (some (.ref b)) → b ≠ p := fun {b} mt yb y => by
        subst y
        exact hj (r.inj i j _ t b h q rfl mt hp yb)
      cases t with
      | un => exact z
      | val d => obtain ⟨y, z1, z2⟩ := z; exact ⟨y, z1, dp_mono sg _ _ z2⟩
      | own es => obtain ⟨b, ys, z1, z2, z3, z4⟩ := z; exact ⟨b, ys, z1, z2, dpAll_mono sg _ _ z3, by rw [upd_ne (nep rfl z1)]; exact z4⟩
      | ext es => obtain ⟨b, ys, z1, z2, z3, z4⟩ := z; exact ⟨b, ys, z1, z2, dpAll_mono sg _ _ z3, by rw [upd_ne (nep rfl z1)]; exact z4⟩
  · obtain ⟨_, w1⟩ := back z1 m1
    obtain ⟨_, w2⟩ := back z2 m2
    exact r.inj j k t u a w1 w2 m1 m2 y1 y2
  · rw [upd_ne (fun y => n (by rw [y]; exact ⟨i, _, h, rfl, hp⟩))]
    exact g
  · obtain ⟨j, t, q, mt, y⟩ := z
    obtain ⟨_, w⟩ := back q mt
    exact ⟨j, t, w, mt, y⟩
  · have hj : i ≠ j := fun y => by rw [← y, h] at z; cases z
    exact ⟨⟨es, by rw [List.getElem?_set_ne hj]; exact z⟩, rfl⟩
end
end
end PL

set_option maxHeartbeats 4000000
/-! The pure layer, part b: meanings, judgements, the rules of expressions, tests, statements. -/
namespace PL
open PySem PySem.Spec PyProof.Rows L2

abbrev SE := En → Option (D × En)
abbrev SA := En → Option (List D × En)
abbrev SF := En → Option (List D × En)
abbrev ST := En → Option (Bool × En)
abbrev SO := En → Option (Option Int × En)
inductive Out where
  | nx (e : En) | rt (d : D) (e : En) | bk (e : En) | ct (e : En)
abbrev SS := En → Option Out
/-- canonical readings -/
def tE (K : PySem.W.Frag) (m : SE) : TE := fun σ H Q => ∃ G e d e', R K G H σ e ∧ m e = some (d, e') ∧ ∀ v G' H', R K G' H' σ e' → Fx σ e G H σ e' G' H' → Dp K G' v d → Q v H'
def tA (K : PySem.W.Frag) (m : SA) : TA := fun σ H Q => ∃ G e ds e', R K G H σ e ∧ m e = some (ds, e') ∧ ∀ vs G' H', R K G' H' σ e' → Fx σ e G H σ e' G' H' → DpAll K G' vs ds → Q vs H'
def tT (K : PySem.W.Frag) (m : ST) : TT := fun σ H Q => ∃ G e b e', R K G H σ e ∧ m e = some (b, e') ∧ ∀ G' H', R K G' H' σ e' → Fx σ e G H σ e' G' H' → Q b H'
def tO (K : PySem.W.Frag) (m : SO) : TO := fun σ H Q => ∃ G e b e', R K G H σ e ∧ m e = some (b, e') ∧ ∀ G' H', R K G' H' σ e' → Fx σ e G H σ e' G' H' → Q b H'
/-- a new list that nobody else holds -/
def tF (K : PySem.W.Frag) (m : SF) : TE := fun σ H Q => ∃ G e ds e', R K G H σ e ∧ m e = some (ds, e') ∧ ∀ p xs G' H', R K G' H' σ e' → Fx σ e G H σ e' G' H' → H' p = some (.lst xs) → DpAll K G' xs ds → G' p = none → H p = none → ¬ Ow σ e' p → Q (.ref p) H'
/-- what is wanted behind an outcome -/
def Fin (K : PySem.W.Frag) (Dn : Ends) (σ : VSt) (e : En) (G H : Hp) : Out → Prop
  | .nx e' => ∀ σ' G' H', R K G' H' σ' e' → Fx σ e G H σ' e' G' H' → Dn.nx σ' H'
  | .bk e' => ∀ σ' G' H', R K G' H' σ' e' → Fx σ e G H σ' e' G' H' → Dn.bk σ' H'
  | .ct e' => ∀ σ' G' H', R K G' H' σ' e' → Fx σ e G H σ' e' G' H' → Dn.ct σ' H'
  | .rt d e' => ∀ v σ' G' H', R K G' H' σ' e' → Fx σ e G H σ' e' G' H' → Dp K G' v d → Dn.rt v H'
def tS (K : PySem.W.Frag) (m : SS) : TS := fun Dn σ H => ∃ G e o, R K G H σ e ∧ m e = some o ∧ Fin K Dn σ e G H o
def DE (X : Cx) (x : Expr) (m : SE) : Prop := PE X x (tE X.K m)
def DF (X : Cx) (x : Expr) (m : SF) : Prop := PE X x (tF X.K m)
def DT (X : Cx) (x : Expr) (m : ST) : Prop := PT X x (tT X.K m)
def DW (X : Cx) (x : Expr) (m : ST) : Prop := PW X x (tT X.K m)
def DA (X : Cx) (xs : List Expr) (m : SA) : Prop := PA X xs (tA X.K m)
def DO (X : Cx) (x : Option Expr) (m : SO) : Prop := PO X x (tO X.K m)
def DS (X : Cx) (x : Stmt) (m : SS) : Prop := PS X x (tS X.K m)
def DB (X : Cx) (xs : List Stmt) (m : SS) : Prop := PSs X xs (tS X.K m)

section
variable {X : Cx} {x y c : Expr} {es : List Expr} {ma mb mc : SE} {pos p p2 : Pos}
theorem weakE {t t' : TE} (h : PE X x t) (w : ∀ σ H Q, t' σ H Q → t σ H Q) : PE X x t' := ⟨fun pins s σ H Q I q => h.run pins s σ H Q I (w σ H Q q)⟩
theorem weakT {t t' : TT} (h : PT X x t) (w : ∀ σ H Q, t' σ H Q → t σ H Q) : PT X x t' := ⟨fun pins s σ H Q I q => h.run pins s σ H Q I (w σ H Q q)⟩
theorem weakW {t t' : TT} (h : PW X x t) (w : ∀ σ H Q, t' σ H Q → t σ H Q) : PW X x t' := ⟨fun wh pins s σ H Q I q => h.run wh pins s σ H Q I (w σ H Q q)⟩
theorem weakA {t t' : TA} (h : PA X es t) (w : ∀ σ H Q, t' σ H Q → t σ H Q) : PA X es t' := ⟨fun ps pins s σ H Q I q => h.run ps pins s σ H Q I (w σ H Q q)⟩
theorem weakS {st : Stmt} {t t' : TS} (h : PS X st t) (w : ∀ Dn σ H, t' Dn σ H → t Dn σ H) : PS X st t' := ⟨fun pins s σ H Dn I q => h.run pins s σ H Dn I (w Dn σ H q)⟩
theorem weakB {st : List Stmt} {t t' : TS} (h : PSs X st t) (w : ∀ Dn σ H, t' Dn σ H → t Dn σ H) : PSs X st t' := ⟨fun pins s σ H Dn I q => h.run pins s σ H Dn I (w Dn σ H q)⟩
theorem weakOp {f : Value → Value → Sem Value} {r r' : R2} (h : OpR X f r) (w : ∀ x y H Q, r' x y H Q → r x y H Q) : OpR X f r' := fun pins s σ H x y v u Q I rx ry q => h pins s σ H x y v u Q I rx ry (w _ _ _ _ q)
theorem weakCall {f : Value} {r r' : List V → Hp → VK → Prop} (h : CallR X f r) (w : ∀ x H Q, r' x H Q → r x H Q) : CallR X f r' := fun pins s σ H x u Q I rx q => h pins s σ H x u Q I rx (w _ _ _ q)
theorem weakMt {id : String} {r r' : V → List V → Hp → VK → Prop} (h : MtR X id r) (w : ∀ x xs H Q, r' x xs H Q → r x xs H Q) : MtR X id r' := fun pins s σ H x xs v us Q I r1 r2 q => h pins s σ H x xs v us Q I r1 r2 (w _ _ _ _ q)
theorem weakIx {r r' : R2} (h : IxR X r) (w : ∀ x y H Q, r' x y H Q → r x y H Q) : IxR X r' := fun va sl pins s σ H x y v u Q I rx ry q => h va sl pins s σ H x y v u Q I rx ry (w _ _ _ _ q)
theorem weakUn {f : Value → Sem Value} {r r' : V → Hp → VK → Prop} (h : UnR X f r) (w : ∀ x H Q, r' x H Q → r x H Q) : UnR X f r' := fun pins s σ H x v Q I rx q => h pins s σ H x v Q I rx (w _ _ _ q)

/-! ### operators by data -/
def rD1 (K : PySem.W.Frag) (f : D → Option D) : V → Hp → VK → Prop := fun x H Q => ∃ G a c, Same G H ∧ Dp K G x a ∧ f a = some c ∧ ∀ v G' H', Gx G H G' H' → Dp K G' v c → Q v H'
def rD2 (K : PySem.W.Frag) (f : D → D → Option D) : R2 := fun x y H Q => ∃ G a b c, Same G H ∧ Dp K G x a ∧ Dp K G y b ∧ f a b = some c ∧ ∀ v G' H', Gx G H G' H' → Dp K G' v c → Q v H'
def rDn (K : PySem.W.Frag) (f : List D → Option D) : List V → Hp → VK → Prop := fun xs H Q => ∃ G ds c, Same G H ∧ DpAll K G xs ds ∧ f ds = some c ∧ ∀ v G' H', Gx G H G' H' → Dp K G' v c → Q v H'
def rFn (K : PySem.W.Frag) (f : List D → Option (List D)) : List V → Hp → VK → Prop := fun xs H Q => ∃ G ds cs, Same G H ∧ DpAll K G xs ds ∧ f ds = some cs ∧ ∀ p ys G' H', Gx G H G' H' → H p = none → H' p = some (.lst ys) → G' p = none → DpAll K G' ys cs → Q (.ref p) H'
def rDm (K : PySem.W.Frag) (f : D → List D → Option D) : V → List V → Hp → VK → Prop := fun x xs H Q => ∃ G a ds c, Same G H ∧ Dp K G x a ∧ DpAll K G xs ds ∧ f a ds = some c ∧ ∀ v G' H', Gx G H G' H' → Dp K G' v c → Q v H'
def rDs (K : PySem.W.Frag) (f : D → Option Int → Option Int → Option D) : V → Option Int → Option Int → Hp → VK → Prop := fun x lo hi H Q => ∃ G a c, Same G H ∧ Dp K G x a ∧ f a lo hi = some c ∧ ∀ v G' H', Gx G H G' H' → Dp K G' v c → Q v H'

/-! ### meanings -/
def eC (d : D) : SE := fun e => some (d, e)
def eNm (i : Nat) : SE := fun e => match e[i]? with
  | some (.val d) => some (d, e)
  | some (.own ds) => some (.list ds, e.set i (.val (.list ds)))
  | _ => none
def eUn (f : D → Option D) (ma : SE) : SE := fun e => (ma e).bind fun p => (f p.1).map fun c => (c, p.2)
def eBin (f : D → D → Option D) (ma mb : SE) : SE := fun e => (ma e).bind fun p => (mb p.2).bind fun q => (f p.1 q.1).map fun c => (c, q.2)
def eChain (f g : D → D → Option D) (ma mb mc : SE) : SE := fun e => (ma e).bind fun p => (mb p.2).bind fun q => (f p.1 q.1).bind fun c => match c with
  | .bool true => (mc q.2).bind fun r => (g q.1 r.1).map fun c => (c, r.2)
  | .bool false => some (.bool false, q.2)
  | _ => none
def eAnd (ma mb : SE) : SE := fun e => (ma e).bind fun p => match p.1 with
  | .bool true => mb p.2
  | .bool false => some (.bool false, p.2)
  | _ => none
def eOr (ma mb : SE) : SE := fun e => (ma e).bind fun p => match p.1 with
  | .bool true => some (.bool true, p.2)
  | .bool false => mb p.2
  | _ => none
def eNot (ma : SE) : SE := fun e => (ma e).bind fun p => match p.1 with
  | .bool b => some (.bool (!b), p.2)
  | _ => none
def eIf (t : ST) (ma mb : SE) : SE := fun e => (t e).bind fun p => if p.1 = true then ma p.2 else mb p.2
def aNil : SA := fun e => some ([], e)
def aCons (ma : SE) (mr : SA) : SA := fun e => (ma e).bind fun p => (mr p.2).map fun q => (p.1 :: q.1, q.2)
def eTup (ma : SA) : SE := fun e => (ma e).bind fun p => if p.1.length ≤ sizeLine then some (.tuple p.1, p.2) else none
def fLst (ma : SA) : SF := fun e => (ma e).bind fun p => if p.1.length ≤ sizeLine then some p else none
def eOf (m : SF) : SE := fun e => (m e).map fun p => (.list p.1, p.2)
def eCall (f : List D → Option D) (ma : SA) : SE := fun e => (ma e).bind fun p => (f p.1).map fun c => (c, p.2)
def fCall (f : List D → Option (List D)) (ma : SA) : SF := fun e => (ma e).bind fun p => (f p.1).map fun c => (c, p.2)
def eMeth (f : D → List D → Option D) (mo : SE) (ma : SA) : SE := fun e => (mo e).bind fun p => (ma p.2).bind fun q => (f p.1 q.1).map fun c => (c, q.2)
def eSl (f : D → Option Int → Option Int → Option D) (mo : SE) (ml mh : SO) : SE := fun e => (mo e).bind fun p => (ml p.2).bind fun q => (mh q.2).bind fun r => (f p.1 q.1 r.1).map fun c => (c, r.2)
def oNone : SO := fun e => some (none, e)
def oSome (m : SE) : SO := fun e => (m e).bind fun p => match p.1 with
  | .int i => some (some i, p.2)
  | _ => none
def tst (m : SE) : ST := fun e => (m e).bind fun p => match p.1 with
  | .bool b => some (b, p.2)
  | _ => none
def cAnd (t u : ST) : ST := fun e => (t e).bind fun p => if p.1 = true then u p.2 else some (false, p.2)
def cOr (t u : ST) : ST := fun e => (t e).bind fun p => if p.1 = true then some (true, p.2) else u p.2
def cNot (t : ST) : ST := fun e => (t e).map fun p => (!p.1, p.2)
/-- the list at a name, of one's own or not -/
def lstAt (e : En) (i : Nat) : Option (List D) := match e[i]? with
  | some (.own ds) => some ds
  | some (.ext ds) => some ds
  | some (.val (.list ds)) => some ds
  | _ => none
def eIxo (i : Nat) (mb : SE) : SE := fun e => (lstAt e i).bind fun _ => (mb e).bind fun q => (lstAt q.2 i).bind fun ds => match q.1 with
  | .int k => (atI ds k).map fun d => (d, q.2)
  | _ => none
def eLeno (i : Nat) : SE := fun e => (lstAt e i).map fun ds => (.int ds.length, e)

/-! ### small helps -/
theorem R.val {K : PySem.W.Frag} {G H : Hp} {σ : VSt} {e : En} (r : R K G H σ e) {i : Nat} {d : D} (h : e[i]? = some (.val d)) : ∃ v, σ[i]? = some (some v) ∧ Dp K G v d := r.at_ i _ h
theorem Sf.new {K : PySem.W.Frag} {G H : Hp} (s : Same G H) {q : Addr} {xs : List V} {ds : List D} (h : H q = none) (hd : DpAll K G xs ds) : Dp K (upd G q (.lst xs)) (.ref q) (.list ds) := .lst (SqL.of upd_same) (dpAll_mono (same_upd (s.free h)) _ _ hd)
theorem St.new {K : PySem.W.Frag} {G H : Hp} (s : Same G H) {q : Addr} {xs : List V} {ds : List D} (h : H q = none) (hd : DpAll K G xs ds) : Dp K (upd G q (.tup xs)) (.ref q) (.tuple ds) := .tup (SqT.of upd_same) (dpAll_mono (same_upd (s.free h)) _ _ hd)

/-! ### expressions -/
theorem de_c {d : D} {v : V} (h : PE X x (tC v)) (hd : ∀ G, Dp X.K G v d) : DE X x (eC d) := weakE h fun σ H Q ⟨G, e, d', e', r, hm, q⟩ => by
  cases hm
  exact q v G H r .refl (hd G)
theorem de_int {i : Int} {j} : DE X (.Constant (.int i) j pos) (eC (.int i)) := de_c pe_int fun _ => .int i
theorem de_bool {b : Bool} {j} : DE X (.Constant (.bool b) j pos) (eC (.bool b)) := de_c pe_bl fun _ => .bl b
theorem de_none {j} : DE X (.Constant .none j pos) (eC .none) := de_c pe_non fun _ => .non
theorem de_str {z} {j} : DE X (.Constant (.str z) j pos) (eC (.str z)) := de_c pe_str fun _ => .str z
theorem de_nm (i : Nat) {nm : Str} (hN : X.N[i]? = some nm) (hv : Vis X.env.scope nm) (hd : (nm == ("__debug__" : Str)) = false) (hcd : (nm == ("__classdict__" : Str)) = false) : DE X (.Name nm pos) (eNm i) :=
  weakE (pe_var hN hv hd hcd) fun σ H Q ⟨G, e, d, e', r, hm, q⟩ => by
    unfold eNm at hm
    split at hm
    · rename_i d0 h0
      cases hm
      obtain ⟨v, h1, h2⟩ := r.val h0
      exact ⟨v, h1, q v G H r .refl h2⟩
    · rename_i ds h0
      cases hm
      obtain ⟨pp, xs, h1, h2, h3, h4⟩ := r.at_ i _ h0
      obtain ⟨r', f', d'⟩ := r.freeze h0 h1 h2 h3 h4
      exact ⟨_, h1, q _ _ H r' f' d'⟩
    · cases hm
theorem de_un {op : UnaryOp} {f : D → Option D} (ho : UnR X (unaryOp op) (rD1 X.K f)) (ha : DE X x ma) : DE X (.UnaryOp op x pos) (eUn f ma) :=
  weakE (pe_un ho ha) fun σ H Q ⟨G, e, d, e', r, hm, q⟩ => by
    obtain ⟨⟨a, e1⟩, h1, hm⟩ := Option.bind_eq_some_iff.mp hm
    obtain ⟨c, h3, hm⟩ := Option.map_eq_some_iff.mp hm
    cases hm
    exact ⟨G, e, a, e1, r, h1, fun v G1 H1 r1 f1 d1 => ⟨G1, a, _, r1.gh, d1, h3, fun z G' H' g dz => q z G' H' (r1.gx g) (f1.trans g.fx) dz⟩⟩
theorem bin_ok {f : D → D → Option D} {σ : VSt} {H : Hp} {Q : VK} (h : tE X.K (eBin f ma mb) σ H Q) : tOp (rD2 X.K f) (tE X.K ma) (tE X.K mb) σ H Q := by
  obtain ⟨G, e, d, e', r, hm, q⟩ := h
  obtain ⟨⟨a, e1⟩, h1, hm⟩ := Option.bind_eq_some_iff.mp hm
  obtain ⟨⟨b, e2⟩, h2, hm⟩ := Option.bind_eq_some_iff.mp hm
  obtain ⟨c, h3, hm⟩ := Option.map_eq_some_iff.mp hm
  cases hm
  exact ⟨G, e, a, e1, r, h1, fun v G1 H1 r1 f1 d1 => ⟨G1, e1, b, e2, r1, h2, fun w G2 H2 r2 f2 d2 => ⟨G2, a, b, _, r2.gh, dp_mono f2.gg _ _ d1, d2, h3, fun z G' H' g dz =>
    q z G' H' (r2.gx g) ((f1.trans f2).trans g.fx) dz⟩⟩⟩
theorem de_op {op : Operator} {f : D → D → Option D} (ho : OpR X (binaryOp op) (rD2 X.K f)) (ha : DE X x ma) (hb : DE X y mb) : DE X (.BinOp x op y pos) (eBin f ma mb) :=
  weakE (pe_op ho ha hb) fun σ H Q h => bin_ok h
theorem de_cmp {op : CmpOp} {f : D → D → Option D} (ho : OpR X (compareOp op) (rD2 X.K f)) (ha : DE X x ma) (hb : DE X y mb) (hk : behindInMarks op y = false) : DE X (.Compare x [op] [y] pos) (eBin f ma mb) :=
  weakE (pe_cmpR ho ha hb hk) fun σ H Q h => bin_ok h
theorem dt_cmp {op : CmpOp} {f : D → D → Option D} (ho : OpR X (compareOp op) (rD2 X.K f)) (ha : DE X x ma) (hb : DE X y mb) (hk : behindInMarks op y = false) : DT X (.Compare x [op] [y] pos) (tst (eBin f ma mb)) :=
  weakT (pt_cmpR ho ha hb hk) fun σ H Q ⟨G, e, b, e', r, hm, q⟩ => by
    obtain ⟨⟨d, e1⟩, h1, hm⟩ := Option.bind_eq_some_iff.mp hm
    cases d <;> cases hm
    exact bin_ok ⟨G, e, _, _, r, h1, fun v G' H' r' f' d' => by cases d'; exact ⟨_, rfl, q G' H' r' f'⟩⟩
theorem chain_ok {f g : D → D → Option D} {σ : VSt} {H : Hp} {Q : VK} (h : tE X.K (eChain f g ma mb mc) σ H Q) : tChain (rD2 X.K f) (rD2 X.K g) (tE X.K ma) (tE X.K mb) (tE X.K mc) σ H Q := by
  obtain ⟨G, e, d, e', r, hm, q⟩ := h
  obtain ⟨⟨a, e1⟩, h1, hm⟩ := Option.bind_eq_some_iff.mp hm
  obtain ⟨⟨b, e2⟩, h2, hm⟩ := Option.bind_eq_some_iff.mp hm
  obtain ⟨k, h3, hm⟩ := Option.bind_eq_some_iff.mp hm
  refine ⟨G, e, a, e1, r, h1, fun v G1 H1 r1 f1 d1 => ⟨G1, e1, b, e2, r1, h2, fun w G2 H2 r2 f2 d2 => ⟨G2, a, b, k, r2.gh, dp_mono f2.gg _ _ d1, d2, h3, fun z G3 H3 g3 dz => ?_⟩⟩⟩
  have r3 := r2.gx g3
  have f3 := (f1.trans f2).trans (g3.fx (σ := σ) (e := e2))
  cases k with
  | bool k =>
    cases dz
    refine ⟨k, rfl, ?_⟩
    cases k with
    | false => cases hm; exact q _ G3 H3 r3 f3 (.bl false)
    | true =>
      obtain ⟨⟨c, e3⟩, h4, hm⟩ := Option.bind_eq_some_iff.mp hm
      obtain ⟨c', h5, hm⟩ := Option.map_eq_some_iff.mp hm
      cases hm
      refine ⟨G3, e2, c, e3, r3, h4, fun u G4 H4 r4 f4 d4 => ⟨G4, b, c, _, r4.gh, dp_mono (g3.gg.trans f4.gg) _ _ d2, d4, h5, fun z G' H' g dz => q z G' H' (r4.gx g) ((f3.trans f4).trans g.fx) dz⟩⟩
  | _ => cases hm
theorem de_chain {op op' : CmpOp} {f g : D → D → Option D} (ho : OpR X (compareOp op) (rD2 X.K f)) (ho' : OpR X (compareOp op') (rD2 X.K g)) (ha : DE X x ma) (hb : DE X y mb) (hc : DE X c mc) (hm : lastMarks [op, op'] [y, c] = false) : DE X (.Compare x [op, op'] [y, c] pos) (eChain f g ma mb mc) :=
  weakE (pe_chain ho ho' ha hb hc hm) fun σ H Q h => chain_ok h
theorem dt_chain {op op' : CmpOp} {f g : D → D → Option D} (ho : OpR X (compareOp op) (rD2 X.K f)) (ho' : OpR X (compareOp op') (rD2 X.K g)) (ha : DE X x ma) (hb : DE X y mb) (hc : DE X c mc) (hm : lastMarks [op, op'] [y, c] = false) : DT X (.Compare x [op, op'] [y, c] pos) (tst (eChain f g ma mb mc)) :=
  weakT (pt_chain ho ho' ha hb hc hm) fun σ H Q ⟨G, e, b, e', r, hm, q⟩ => by
    obtain ⟨⟨d, e1⟩, h1, hm⟩ := Option.bind_eq_some_iff.mp hm
    cases d <;> cases hm
    exact chain_ok ⟨G, e, _, _, r, h1, fun v G' H' r' f' d' => by cases d'; exact ⟨_, rfl, q G' H' r' f'⟩⟩
theorem de_one {op} (h : DE X x ma) : DE X (.BoolOp op [x] pos) ma := pe_one h
theorem de_and {rest : List Expr} (ha : DE X x ma) (hb : DE X (.BoolOp .And (y :: rest) pos) mb) : DE X (.BoolOp .And (x :: y :: rest) pos) (eAnd ma mb) :=
  weakE (pe_and ha hb) fun σ H Q ⟨G, e, d, e', r, hm, q⟩ => by
    obtain ⟨⟨a, e1⟩, h1, hm⟩ := Option.bind_eq_some_iff.mp hm
    refine ⟨G, e, a, e1, r, h1, fun v G1 H1 r1 f1 d1 => ?_⟩
    cases a with
    | bool k =>
      cases d1
      refine ⟨k, rfl, ?_⟩
      cases k with
      | true => exact ⟨G1, e1, d, e', r1, hm, fun w G' H' r2 f2 d2 => q w G' H' r2 (f1.trans f2) d2⟩
      | false => cases hm; exact q _ G1 H1 r1 f1 (.bl false)
    | _ => cases hm
theorem de_or {rest : List Expr} (ha : DE X x ma) (hb : DE X (.BoolOp .Or (y :: rest) pos) mb) : DE X (.BoolOp .Or (x :: y :: rest) pos) (eOr ma mb) :=
  weakE (pe_or ha hb) fun σ H Q ⟨G, e, d, e', r, hm, q⟩ => by
    obtain ⟨⟨a, e1⟩, h1, hm⟩ := Option.bind_eq_some_iff.mp hm
    refine ⟨G, e, a, e1, r, h1, fun v G1 H1 r1 f1 d1 => ?_⟩
    cases a with
    | bool k =>
      cases d1
      refine ⟨k, rfl, ?_⟩
      cases k with
      | false => exact ⟨G1, e1, d, e', r1, hm, fun w G' H' r2 f2 d2 => q w G' H' r2 (f1.trans f2) d2⟩
      | true => cases hm; exact q _ G1 H1 r1 f1 (.bl true)
    | _ => cases hm
theorem de_not (ha : DE X x ma) : DE X (.UnaryOp .Not x pos) (eNot ma) :=
  weakE (pe_not ha) fun σ H Q ⟨G, e, d, e', r, hm, q⟩ => by
    obtain ⟨⟨a, e1⟩, h1, hm⟩ := Option.bind_eq_some_iff.mp hm
    refine ⟨G, e, a, e1, r, h1, fun v G1 H1 r1 f1 d1 => ?_⟩
    cases a with
    | bool k =>
      cases d1
      cases hm
      exact ⟨k, rfl, q _ G1 H1 r1 f1 (.bl _)⟩
    | _ => cases hm
theorem de_if {t : ST} (hc : DT X c t) (ha : DE X x ma) (hb : DE X y mb) : DE X (.IfExp c x y pos) (eIf t ma mb) :=
  weakE (pe_ifExp hc ha hb) fun σ H Q ⟨G, e, d, e', r, hm, q⟩ => by
    obtain ⟨⟨b, e1⟩, h1, hm⟩ := Option.bind_eq_some_iff.mp hm
    refine ⟨G, e, b, e1, r, h1, fun G1 H1 r1 f1 => ?_⟩
    cases b with
    | true => exact ⟨G1, e1, d, e', r1, hm, fun w G' H' r2 f2 d2 => q w G' H' r2 (f1.trans f2) d2⟩
    | false => exact ⟨G1, e1, d, e', r1, hm, fun w G' H' r2 f2 d2 => q w G' H' r2 (f1.trans f2) d2⟩
/-! ### tests -/
theorem dt_val (h : DE X x ma) (he : ∀ whole, isTrue x X.env whole = (do let v ← whole; standAt x.pos; holding [v] (truthy v)) := by intro _; rfl) : DT X x (tst ma) :=
  weakT (pt_val h he) fun σ H Q ⟨G, e, b, e', r, hm, q⟩ => by
    obtain ⟨⟨d, e1⟩, h1, hm⟩ := Option.bind_eq_some_iff.mp hm
    cases d <;> cases hm
    exact ⟨G, e, _, _, r, h1, fun v G' H' r' f' d' => by cases d'; exact ⟨_, rfl, q G' H' r' f'⟩⟩
theorem dt_not {t : ST} (h : DT X x t) : DT X (.UnaryOp .Not x pos) (cNot t) :=
  weakT (pt_not h) fun σ H Q ⟨G, e, b, e', r, hm, q⟩ => by
    obtain ⟨⟨d, e1⟩, h1, hm⟩ := Option.map_eq_some_iff.mp hm
    cases hm
    exact ⟨G, e, d, e1, r, h1, q⟩
theorem dw_and1 {t : ST} (h : DT X x t) : DW X (.BoolOp .And [x] pos) t := pw_and1 h
theorem dw_or1 {t : ST} (h : DT X x t) : DW X (.BoolOp .Or [x] pos) t := pw_or1 h
theorem dw_and {t u : ST} {rest : List Expr} (ha : DT X x t) (hb : DW X (.BoolOp .And (y :: rest) pos) u) : DW X (.BoolOp .And (x :: y :: rest) pos) (cAnd t u) :=
  weakW (pw_and ha hb) fun σ H Q ⟨G, e, b, e', r, hm, q⟩ => by
    obtain ⟨⟨k, e1⟩, h1, hm⟩ := Option.bind_eq_some_iff.mp hm
    refine ⟨G, e, k, e1, r, h1, fun G1 H1 r1 f1 => ?_⟩
    cases k with
    | true => exact ⟨G1, e1, b, e', r1, hm, fun G' H' r2 f2 => q G' H' r2 (f1.trans f2)⟩
    | false => cases hm; exact q G1 H1 r1 f1
theorem dw_or {t u : ST} {rest : List Expr} (ha : DT X x t) (hb : DW X (.BoolOp .Or (y :: rest) pos) u) : DW X (.BoolOp .Or (x :: y :: rest) pos) (cOr t u) :=
  weakW (pw_or ha hb) fun σ H Q ⟨G, e, b, e', r, hm, q⟩ => by
    obtain ⟨⟨k, e1⟩, h1, hm⟩ := Option.bind_eq_some_iff.mp hm
    refine ⟨G, e, k, e1, r, h1, fun G1 H1 r1 f1 => ?_⟩
    cases k with
    | false => exact ⟨G1, e1, b, e', r1, hm, fun G' H' r2 f2 => q G' H' r2 (f1.trans f2)⟩
    | true => cases hm; exact q G1 H1 r1 f1
theorem dt_w {t : ST} (h : DW X x t) : DT X x t := PW.pt h
/-! ### arguments, displays -/
theorem da_nil : DA X [] aNil := weakA pa_nil fun σ H Q ⟨G, e, d, e', r, hm, q⟩ => by
  cases hm
  exact q [] G H r .refl .nil
theorem da_cons {mr : SA} (ha : DE X x ma) (hr : DA X es mr) (hs : starEach (x :: es) X.env = (false, eval x X.env) :: starEach es X.env := by rfl) : DA X (x :: es) (aCons ma mr) :=
  weakA (pa_cons ha hr hs) fun σ H Q ⟨G, e, ds, e', r, hm, q⟩ => by
    obtain ⟨⟨a, e1⟩, h1, hm⟩ := Option.bind_eq_some_iff.mp hm
    obtain ⟨⟨bs, e2⟩, h2, hm⟩ := Option.map_eq_some_iff.mp hm
    cases hm
    exact ⟨G, e, a, e1, r, h1, fun v G1 H1 r1 f1 d1 => ⟨G1, e1, bs, e2, r1, h2, fun vs G2 H2 r2 f2 d2 => q (v :: vs) G2 H2 r2 (f1.trans f2) (.cons (dp_mono f2.gg _ _ d1) d2)⟩⟩
theorem de_tup {m : SA} {k} (h : DA X es m) : DE X (.Tuple es k pos) (eTup m) :=
  weakE (pe_tup h) fun σ H Q ⟨G, e, d, e', r, hm, q⟩ => by
    obtain ⟨⟨ds, e1⟩, h1, hm⟩ := Option.bind_eq_some_iff.mp hm
    split at hm
    · rename_i hl
      cases hm
      refine ⟨G, e, ds, e1, r, h1, fun vs G1 H1 r1 f1 d1 => ⟨by rw [DpAll.length d1]; exact hl, fun pp np => ?_⟩⟩
      have g := Gx.new r1.gh (o := .tup vs) np
      exact q _ _ _ (r1.gx g) (f1.trans g.fx) (St.new r1.gh np d1)
    · cases hm
theorem df_lst {m : SA} (h : DA X es m) : DF X (.List es pos) (fLst m) :=
  weakE (pe_lst h) fun σ H Q ⟨G, e, d, e', r, hm, q⟩ => by
    obtain ⟨⟨ds, e1⟩, h1, hm⟩ := Option.bind_eq_some_iff.mp hm
    split at hm
    · rename_i hl
      cases hm
      refine ⟨G, e, d, e', r, h1, fun vs G1 H1 r1 f1 d1 => ⟨by rw [DpAll.length d1]; exact hl, fun pp np => ?_⟩⟩
      have g := Gx.aside r1.gh (o := .lst vs) np
      have hp0 : H pp = none := by
        cases z : H pp with
        | none => rfl
        | some o => exact absurd np (f1.nn pp (ne_none_of z))
      refine q pp vs G1 _ (r1.gx g) (f1.trans g.fx) upd_same d1 (r1.gh.free np) hp0 fun w => ?_
      obtain ⟨ys, y1, _⟩ := Ow.lst r1 w
      rw [np] at y1; cases y1
    · cases hm
end
end PL

set_option maxHeartbeats 4000000
/-! The pure layer, part c: calls of built-ins, methods, items, slices; statements, targets, loops, comprehensions. -/
namespace PL
open PySem PySem.Spec PyProof.Rows L2
section
variable {X : Cx} {x y c : Expr} {es : List Expr} {ma mb mc : SE} {pos p p2 : Pos}

theorem of_ok {K : PySem.W.Frag} {m : SF} {σ : VSt} {H : Hp} {Q : VK} (h : tE K (eOf m) σ H Q) : tF K m σ H Q := by
    obtain ⟨G, e, d, e', r, hm, q⟩ := h
    obtain ⟨⟨ds, e1⟩, h1, hm⟩ := Option.map_eq_some_iff.mp hm
    cases hm
    refine ⟨G, e, ds, e1, r, h1, fun pp xs G1 H1 r1 f1 hp hd hg h0 ho => ?_⟩
    have sg : Same G1 (upd G1 pp (.lst xs)) := same_upd hg
    have r2 : R K (upd G1 pp (.lst xs)) H1 σ e1 := by
      refine ⟨fun b o z => ?_, r1.len, fun i s z => ?_, r1.inj⟩
      · by_cases hb : b = pp
        · subst hb; rw [upd_same] at z; cases z; exact hp
        · rw [upd_ne hb] at z; exact r1.gh b o z
      · have w := r1.at_ i s z
        have nep : ∀ {b : Addr}, s.mut = true → σ[i]? = some (some (.ref b)) → b ≠ pp := fun {b} mt yb t => ho (by rw [← t]; exact ⟨i, s, z, mt, yb⟩)
        cases s with
        | un => exact w
        | val d => obtain ⟨u, z1, z2⟩ := w; exact ⟨u, z1, dp_mono sg _ _ z2⟩
        | own es => obtain ⟨b, ys, z1, z2, z3, z4⟩ := w; exact ⟨b, ys, z1, z2, dpAll_mono sg _ _ z3, by rw [upd_ne (nep rfl z1)]; exact z4⟩
        | ext es => obtain ⟨b, ys, z1, z2, z3, z4⟩ := w; exact ⟨b, ys, z1, z2, dpAll_mono sg _ _ z3, by rw [upd_ne (nep rfl z1)]; exact z4⟩
    refine q _ _ H1 r2 ⟨f1.gg.trans sg, f1.hh, fun a z n g => ?_, f1.mm, f1.nn, f1.ke⟩ (.lst (SqL.of upd_same) (dpAll_mono sg _ _ hd))
    rw [upd_ne (fun t => z (by rw [t]; exact h0))]
    exact f1.fr a z n g
theorem de_of {m : SF} (h : DF X x m) : DE X x (eOf m) := weakE h fun σ H Q q => of_ok q
/-! ### calls -/
theorem de_callB {nm : Str} {id : String} {f : List D → Option D} {m : SA} (hc : CallR X (.builtin id) (rDn X.K f)) (hg : Gl X nm) (hm : X.mg nm = none) (hv : bootBuiltins nm = some (.builtin id)) (ha : DA X (x :: es) m) (hn : nm ≠ "__name__" := by decide) (hdb : (nm == ("__debug__" : Str)) = false := by decide)
    (he : starEach (x :: es) X.env = (false, eval x X.env) :: starEach es X.env := by rfl) (hpl : (backTo pos (starEach es X.env)).any (·.1) = false := by rfl) : DE X (.Call (.Name nm p) (x :: es) [] pos) (eCall f m) :=
  weakE (pe_callB hc hg hm hv ha hn hdb he hpl) fun σ H Q ⟨G, e, d, e', r, hm, q⟩ => by
    obtain ⟨⟨ds, e1⟩, h1, hm⟩ := Option.bind_eq_some_iff.mp hm
    obtain ⟨c, h3, hm⟩ := Option.map_eq_some_iff.mp hm
    cases hm
    exact ⟨G, e, ds, e1, r, h1, fun vs G1 H1 r1 f1 d1 => ⟨G1, ds, _, r1.gh, d1, h3, fun z G' H' g dz => q z G' H' (r1.gx g) (f1.trans g.fx) dz⟩⟩
theorem de_callTy {nm : Str} {T : String} {f : List D → Option D} {m : SA} (hc : CallR X (.type T) (rDn X.K f)) (hg : Gl X nm) (hm : X.mg nm = none) (hv : bootBuiltins nm = some (.type T)) (ha : DA X (x :: es) m) (hn : nm ≠ "__name__" := by decide) (hdb : (nm == ("__debug__" : Str)) = false := by decide)
    (he : starEach (x :: es) X.env = (false, eval x X.env) :: starEach es X.env := by rfl) (hpl : (backTo pos (starEach es X.env)).any (·.1) = false := by rfl) : DE X (.Call (.Name nm p) (x :: es) [] pos) (eCall f m) :=
  weakE (pe_callTy hc hg hm hv ha hn hdb he hpl) fun σ H Q ⟨G, e, d, e', r, hm, q⟩ => by
    obtain ⟨⟨ds, e1⟩, h1, hm⟩ := Option.bind_eq_some_iff.mp hm
    obtain ⟨c, h3, hm⟩ := Option.map_eq_some_iff.mp hm
    cases hm
    exact ⟨G, e, ds, e1, r, h1, fun vs G1 H1 r1 f1 d1 => ⟨G1, ds, _, r1.gh, d1, h3, fun z G' H' g dz => q z G' H' (r1.gx g) (f1.trans g.fx) dz⟩⟩
theorem fresh_call {f : List D → Option (List D)} {m : SA} {σ : VSt} {H : Hp} {Q : VK} (h : tF X.K (fCall f m) σ H Q) : tA X.K m σ H fun vs H1 => rFn X.K f vs H1 Q := by
  obtain ⟨G, e, d, e', r, hm, q⟩ := h
  obtain ⟨⟨ds, e1⟩, h1, hm⟩ := Option.bind_eq_some_iff.mp hm
  obtain ⟨c, h3, hm⟩ := Option.map_eq_some_iff.mp hm
  cases hm
  refine ⟨G, e, ds, e1, r, h1, fun vs G1 H1 r1 f1 d1 => ⟨G1, ds, _, r1.gh, d1, h3, fun pp ys G' H' g hp0 hp hg dz => ?_⟩⟩
  have r2 := r1.gx g
  refine q pp ys G' H' r2 (f1.trans g.fx) hp dz hg ?_ fun w => ?_
  · cases z : H pp with
    | none => rfl
    | some o => exact absurd hp0 (f1.nn pp (ne_none_of z))
  · obtain ⟨i, s, w1, w2, w3⟩ := w
    obtain ⟨p', xs, ds', _, z1, z2, _, _⟩ := r1.mut_at w1 w2
    rw [w3] at z1
    cases z1
    rw [z2] at hp0
    cases hp0
theorem df_callTy {nm : Str} {T : String} {f : List D → Option (List D)} {m : SA} (hc : CallR X (.type T) (rFn X.K f)) (hg : Gl X nm) (hm : X.mg nm = none) (hv : bootBuiltins nm = some (.type T)) (ha : DA X (x :: es) m) (hn : nm ≠ "__name__" := by decide) (hdb : (nm == ("__debug__" : Str)) = false := by decide)
    (he : starEach (x :: es) X.env = (false, eval x X.env) :: starEach es X.env := by rfl) (hpl : (backTo pos (starEach es X.env)).any (·.1) = false := by rfl) : DF X (.Call (.Name nm p) (x :: es) [] pos) (fCall f m) :=
  weakE (pe_callTy hc hg hm hv ha hn hdb he hpl) fun σ H Q h => fresh_call h
theorem df_callB {nm : Str} {id : String} {f : List D → Option (List D)} {m : SA} (hc : CallR X (.builtin id) (rFn X.K f)) (hg : Gl X nm) (hm : X.mg nm = none) (hv : bootBuiltins nm = some (.builtin id)) (ha : DA X (x :: es) m) (hn : nm ≠ "__name__" := by decide) (hdb : (nm == ("__debug__" : Str)) = false := by decide)
    (he : starEach (x :: es) X.env = (false, eval x X.env) :: starEach es X.env := by rfl) (hpl : (backTo pos (starEach es X.env)).any (·.1) = false := by rfl) : DF X (.Call (.Name nm p) (x :: es) [] pos) (fCall f m) :=
  weakE (pe_callB hc hg hm hv ha hn hdb he hpl) fun σ H Q h => fresh_call h
/-! ### methods of built-in types -/
theorem tyv_str {K : PySem.W.Frag} {G H : Hp} {v : V} {z : Str} (h : Dp K G v (.str z)) : tyV K "str" v H := by cases h; exact rfl
theorem tyv_list {K : PySem.W.Frag} {G H : Hp} {v : V} {ds : List D} (s : Same G H) (h : Dp K G v (.list ds)) : tyV K "list" v H := by
  cases h with
  | lst hs ha => exact .inl ⟨rfl, _, s.seq hs⟩
/-- f a ds is only defined where a is a text (a list) -/
theorem de_meth {T id : String} {nm : Str} {apos cpos : Pos} {f : D → List D → Option D} {m : SA} (pa : PlainAttrs T) (slot : Slot T nm id) (hty : typeOf (.builtin id) = pure (.type "method_descriptor")) (hm : MtR X id (rDm X.K f)) (ho : DE X x ma) (ha : DA X (y :: es) m)
    (ty : ∀ (G H : Hp) (a : D) (ds : List D) (c : D) (v : V), Same G H → f a ds = some c → Dp X.K G v a → tyV X.K T v H)
    (hbase : attributeBase x nm X.env (eval x X.env) = eval x X.env := by rfl)
    (hfew : ((backTo cpos (starEach (y :: es) X.env)).all (fun z => !z.1) && (backToKw cpos (keywordEach [] X.env)).all (fun z => z.1.isSome)
      && decide ((y :: es).length + ([] : List Keyword).length + (if ([] : List Keyword).isEmpty then 0 else 1) < 30)) = true := by rfl)
    (hline : (apos.endLine == cpos.line) = true := by rfl) (hs : starEach (y :: es) X.env = (false, eval y X.env) :: starEach es X.env := by rfl) (hpl : (backTo cpos (starEach es X.env)).any (·.1) = false := by rfl) : DE X (.Call (.Attribute x nm apos) (y :: es) [] cpos) (eMeth f ma m) :=
  weakE (pe_bm pa slot hty hm ho ha hbase hfew hline hs hpl) fun σ H Q ⟨G, e, d, e', r, hm, q⟩ => by
    obtain ⟨⟨a, e1⟩, h1, hm⟩ := Option.bind_eq_some_iff.mp hm
    obtain ⟨⟨ds, e2⟩, h2, hm⟩ := Option.bind_eq_some_iff.mp hm
    obtain ⟨c, h3, hm⟩ := Option.map_eq_some_iff.mp hm
    cases hm
    exact ⟨G, e, a, e1, r, h1, fun v G1 H1 r1 f1 d1 => ⟨ty G1 H1 a ds _ v r1.gh h3 d1, G1, e1, ds, e2, r1, h2, fun vs G2 H2 r2 f2 d2 => ⟨G2, a, ds, _, r2.gh, dp_mono f2.gg _ _ d1, d2, h3, fun z G' H' g dz =>
      q z G' H' (r2.gx g) ((f1.trans f2).trans g.fx) dz⟩⟩⟩
/-! ### items and slices -/
theorem de_ix {f : D → D → Option D} (hr : IxR X (rD2 X.K f)) (ha : DE X x ma) (hb : DE X y mb) (hs : PlainIx y) : DE X (.Subscript x y pos) (eBin f ma mb) :=
  weakE (pe_ix hr ha hb hs) fun σ H Q h => bin_ok h
theorem do_none : DO X none oNone := ⟨fun pins s σ H Q I ⟨G, e, b, e', r, hm, q⟩ => by
  cases hm
  exact po_none.run pins s σ H Q I (q G H r .refl)⟩
theorem do_some (h : DE X x ma) : DO X (some x) (oSome ma) := ⟨fun pins s σ H Q I ⟨G, e, b, e', r, hm, q⟩ => by
  refine (po_some h).run pins s σ H Q I ?_
  obtain ⟨⟨a, e1⟩, h1, hm⟩ := Option.bind_eq_some_iff.mp hm
  refine ⟨G, e, a, e1, r, h1, fun v G1 H1 r1 f1 d1 => ?_⟩
  cases a with
  | int i =>
    cases d1
    cases hm
    exact ⟨i, rfl, q G1 H1 r1 f1⟩
  | _ => cases hm⟩
theorem de_sl {f : D → Option Int → Option Int → Option D} {ml mh : SO} {lo hi : Option Expr} (hr : SlR X (rDs X.K f)) (ha : DE X x ma) (hl : DO X lo ml) (hh : DO X hi mh) : DE X (.Subscript x (.Slice lo hi none p2) pos) (eSl f ma ml mh) :=
  weakE (pe_slice hr ha hl hh) fun σ H Q ⟨G, e, d, e', r, hm, q⟩ => by
    obtain ⟨⟨a, e1⟩, h1, hm⟩ := Option.bind_eq_some_iff.mp hm
    obtain ⟨⟨l, e2⟩, h2, hm⟩ := Option.bind_eq_some_iff.mp hm
    obtain ⟨⟨u, e3⟩, h3, hm⟩ := Option.bind_eq_some_iff.mp hm
    obtain ⟨c, h4, hm⟩ := Option.map_eq_some_iff.mp hm
    cases hm
    exact ⟨G, e, a, e1, r, h1, fun v G1 H1 r1 f1 d1 => ⟨G1, e1, l, e2, r1, h2, fun G2 H2 r2 f2 => ⟨G2, e2, u, e3, r2, h3, fun G3 H3 r3 f3 => ⟨G3, a, _, r3.gh, dp_mono (f2.trans f3).gg _ _ d1, h4, fun z G' H' g dz =>
      q z G' H' (r3.gx g) (((f1.trans f2).trans f3).trans g.fx) dz⟩⟩⟩⟩
/-- the list at a name, read -/
theorem R.lst_at {K : PySem.W.Frag} {G H : Hp} {σ : VSt} {e : En} (r : R K G H σ e) {i : Nat} {ds : List D} (h : lstAt e i = some ds) : ∃ pp xs, σ[i]? = some (some (.ref pp)) ∧ SqL K H pp xs ∧ DpAll K G xs ds := by
  unfold lstAt at h
  split at h
  · rename_i h0
    cases h
    obtain ⟨pp, xs, q1, q2, q3, q4⟩ := r.at_ i _ h0
    exact ⟨pp, xs, q1, SqL.of q2, q3⟩
  · rename_i h0
    cases h
    obtain ⟨pp, xs, q1, q2, q3, q4⟩ := r.at_ i _ h0
    exact ⟨pp, xs, q1, SqL.of q2, q3⟩
  · rename_i h0
    cases h
    obtain ⟨v, q1, q2⟩ := r.at_ i _ h0
    cases q2 with
    | lst hs ha => exact ⟨_, _, q1, r.gh.seq hs, ha⟩
  · cases h
theorem atI_dp {K : PySem.W.Frag} {G : Hp} {xs : List V} {ds : List D} {k : Int} {d : D} (h : DpAll K G xs ds) (hk : atI ds k = some d) : ∃ v, atI xs k = some v ∧ Dp K G v d := by
  unfold atI at hk ⊢
  rw [DpAll.length h]
  obtain ⟨j, h1, h2⟩ := Option.bind_eq_some_iff.mp hk
  obtain ⟨v, q1, q2⟩ := DpAll.get h h2
  exact ⟨v, by rw [h1]; exact q1, q2⟩
/-- name[i], the name's list being one that is changed here -/
theorem de_ixo (i : Nat) {nm : Str} (hN : X.N[i]? = some nm) (hv : Vis X.env.scope nm) (hd : (nm == ("__debug__" : Str)) = false) (hcd : (nm == ("__classdict__" : Str)) = false) (hb : DE X y mb) (hs : PlainIx y) : DE X (.Subscript (.Name nm p) y pos) (eIxo i mb) :=
  weakE (pe_ix ix_list (pe_var hN hv hd hcd) hb hs) fun σ H Q ⟨G, e, d, e', r, hm, q⟩ => by
    obtain ⟨ds0, h0, hm⟩ := Option.bind_eq_some_iff.mp hm
    obtain ⟨⟨b, e1⟩, h1, hm⟩ := Option.bind_eq_some_iff.mp hm
    obtain ⟨ds, h2, hm⟩ := Option.bind_eq_some_iff.mp hm
    obtain ⟨pp, xs0, z1, _, _⟩ := r.lst_at h0
    refine ⟨.ref pp, z1, G, e, b, e1, r, h1, fun v G1 H1 r1 f1 d1 => ?_⟩
    cases b with
    | int k =>
      cases d1
      obtain ⟨d2, h3, hm⟩ := Option.map_eq_some_iff.mp hm
      cases hm
      obtain ⟨p', xs, y1, y2, y3⟩ := r1.lst_at h2
      rw [z1] at y1
      cases y1
      obtain ⟨w, w1, w2⟩ := atI_dp y3 h3
      exact ⟨pp, xs, k, w, rfl, rfl, y2, w1, q w G1 H1 r1 f1 w2⟩
    | _ => cases hm
theorem de_leno (i : Nat) {nm nl : Str} (hN : X.N[i]? = some nm) (hv : Vis X.env.scope nm) (hd : (nm == ("__debug__" : Str)) = false) (hcd : (nm == ("__classdict__" : Str)) = false) (hg : Gl X "len") (hm : X.mg "len" = none)  :
    DE X (.Call (.Name "len" p) [.Name nm p2] [] pos) (eLeno i) :=
  weakE (pe_callB call_len_seq hg hm PySem.boot_len (pa_cons (pe_var hN hv hd hcd) pa_nil)) fun σ H Q ⟨G, e, d, e', r, hm, q⟩ => by
    obtain ⟨ds, h0, hm⟩ := Option.map_eq_some_iff.mp hm
    cases hm
    obtain ⟨pp, xs, z1, z2, z3⟩ := r.lst_at h0
    refine ⟨.ref pp, z1, pp, xs, rfl, .inl z2, ?_⟩
    rw [DpAll.length z3]
    exact q _ G H r .refl (.int _)
end
end PL

set_option maxHeartbeats 4000000
/-! The pure layer, part d: statements, targets, loops, comprehensions. -/
namespace PL
open PySem PySem.Spec PyProof.Rows L2

def setv (e : En) (i : Nat) (d : D) : Option En := match e[i]? with
  | some (.ext _) => none
  | some _ => some (e.set i (.val d))
  | none => none
def seto (e : En) (i : Nat) (ds : List D) : Option En := match e[i]? with
  | some (.ext _) => none
  | some _ => some (e.set i (.own ds))
  | none => none
def sNext : SS := fun e => some (.nx e)
def sSeq (m n : SS) : SS := fun e => (m e).bind fun o => match o with
  | .nx e' => n e'
  | o => some o
def sIf (t : ST) (m n : SS) : SS := fun e => (t e).bind fun p => if p.1 = true then m p.2 else n p.2
def sRet (m : SE) : SS := fun e => (m e).map fun p => .rt p.1 p.2
def sRetN : SS := fun e => some (.rt .none e)
def sBreak : SS := fun e => some (.bk e)
def sCont : SS := fun e => some (.ct e)
def sNever : SS := fun _ => none
def sExpr (m : SE) : SS := fun e => (m e).map fun p => .nx p.2
def sAsg (m : SE) (g : D → En → Option En) : SS := fun e => (m e).bind fun p => (g p.1 p.2).map .nx
def sSet (i : Nat) (m : SE) : SS := fun e => (m e).bind fun p => (setv p.2 i p.1).map .nx
def sOwn (i : Nat) (m : SF) : SS := fun e => (m e).bind fun p => (seto p.2 i p.1).map .nx
def sAug (i : Nat) (f : D → D → Option D) (m : SE) : SS := fun e => match e[i]? with
  | some (.val a) => (m e).bind fun p => (f a p.1).bind fun c => (setv p.2 i c).map .nx
  | _ => none
/-- a list that is changed here -/
def putL (e : En) (i : Nat) (ds : List D) : Option En := match e[i]? with
  | some (.own _) => some (e.set i (.own ds))
  | some (.ext _) => some (e.set i (.ext ds))
  | _ => none
def mutL (e : En) (i : Nat) : Option (List D) := match e[i]? with
  | some (.own ds) => some ds
  | some (.ext ds) => some ds
  | _ => none
def sApp (i : Nat) (m : SE) : SS := fun e => (mutL e i).bind fun _ => (m e).bind fun p => (mutL p.2 i).bind fun ds => if ds.length < sizeLine then (putL p.2 i (ds ++ [p.1])).map .nx else none
def sPop (i : Nat) : SS := fun e => (mutL e i).bind fun ds => if ds.length = 0 then none else (putL e i ds.dropLast).map .nx
def sIns (i : Nat) (mk m : SE) : SS := fun e => (mutL e i).bind fun _ => (mk e).bind fun q => (m q.2).bind fun p => (mutL p.2 i).bind fun ds => match q.1 with
  | .int k => if ds.length < sizeLine ∧ 0 ≤ k ∧ k < 2 ^ 63 then (putL p.2 i (ds.take k.toNat ++ [p.1] ++ ds.drop k.toNat)).map .nx else none
  | _ => none
def sPut (i : Nat) (mk m : SE) : SS := fun e => (m e).bind fun p => (mutL p.2 i).bind fun _ => (mk p.2).bind fun q => (mutL q.2 i).bind fun ds => match q.1 with
  | .int k => (ixN ds.length k).bind fun j => (putL q.2 i (ds.set j p.1)).map .nx
  | _ => none
def gNm (i : Nat) (d : D) (e : En) : Option En := setv e i d
def gTupD (n : Nat) (gs : List D → En → Option En) (d : D) (e : En) : Option En := match d with
  | .tuple ds => if ds.length = n then gs ds e else none
  | _ => none
def gsNil (ds : List D) (e : En) : Option En := match ds with
  | [] => some e
  | _ => none
def gsCons (g : D → En → Option En) (gs : List D → En → Option En) (ds : List D) (e : En) : Option En := match ds with
  | d :: r => (g d e).bind (gs r)
  | [] => none
/-- for: the items one by one -/
def forL (g : D → En → Option En) (b : SS) : List D → En → Option Out
  | [], e => some (.nx e)
  | d :: ds, e => (g d e).bind fun e1 => (b e1).bind fun o => match o with
    | .nx e2 => forL g b ds e2
    | .ct e2 => forL g b ds e2
    | .bk e2 => some (.nx e2)
    | .rt r e2 => some (.rt r e2)
def sFor (mi : SF) (g : D → En → Option En) (b : SS) : SS := fun e => (mi e).bind fun p => forL g b p.1 p.2
def whL (t : ST) (b : SS) : Nat → En → Option Out
  | 0, _ => none
  | n + 1, e => (t e).bind fun p => if p.1 = true then (b p.2).bind fun o => (match o with
    | .nx e2 => whL t b n e2
    | .ct e2 => whL t b n e2
    | .bk e2 => some (.nx e2)
    | .rt r e2 => some (.rt r e2)) else some (.nx p.2)
def fuel : Nat := 10 ^ 30
def sWhile (t : ST) (b : SS) : SS := fun e => whL t b fuel e

def tG (K : PySem.W.Frag) (g : D → En → Option En) : TG := fun v σ H Q => ∃ G e d e', R K G H σ e ∧ Dp K G v d ∧ g d e = some e' ∧ ∀ σ' G' H', R K G' H' σ' e' → Fx σ e G H σ' e' G' H' → Q σ' H'
def tGs (K : PySem.W.Frag) (g : List D → En → Option En) : TGs := fun v σ H Q => ∃ G e d e', R K G H σ e ∧ DpAll K G v d ∧ g d e = some e' ∧ ∀ σ' G' H', R K G' H' σ' e' → Fx σ e G H σ' e' G' H' → Q σ' H'
def DG (X : Cx) (x : Expr) (g : D → En → Option En) : Prop := PG X x (tG X.K g)
def DGs (X : Cx) (x : List Expr) (g : List D → En → Option En) : Prop := PGs X x (tGs X.K g)
theorem weakG {X : Cx} {x : Expr} {t t' : TG} (h : PG X x t) (w : ∀ v σ H Q, t' v σ H Q → t v σ H Q) : PG X x t' := ⟨fun pins s σ H v u Q I r q => h.run pins s σ H v u Q I r (w v σ H Q q)⟩
theorem weakGs {X : Cx} {x : List Expr} {t t' : TGs} (h : PGs X x t) (w : ∀ v σ H Q, t' v σ H Q → t v σ H Q) : PGs X x t' := ⟨fun pins s σ H v u Q I r q => h.run pins s σ H v u Q I r (w v σ H Q q)⟩

theorem setv_some {e e' : En} {i : Nat} {d : D} (h : setv e i d = some e') : e' = e.set i (.val d) ∧ ∀ ds, e[i]? ≠ some (.ext ds) := by
  unfold setv at h
  cases z : e[i]? with
  | none => rw [z] at h; cases h
  | some s =>
    rw [z] at h
    cases s <;> cases h <;> exact ⟨rfl, fun _ w => by cases w⟩
theorem seto_some {e e' : En} {i : Nat} {ds : List D} (h : seto e i ds = some e') : e' = e.set i (.own ds) ∧ ∀ es, e[i]? ≠ some (.ext es) := by
  unfold seto at h
  cases z : e[i]? with
  | none => rw [z] at h; cases h
  | some s =>
    rw [z] at h
    cases s <;> cases h <;> exact ⟨rfl, fun _ w => by cases w⟩
section
variable {K : PySem.W.Frag} {G H : Hp} {σ : VSt} {e e' : En}
theorem put_v (r : R K G H σ e) {i : Nat} {v : V} {d : D} (hv : Dp K G v d) (h : setv e i d = some e') : R K G H (σ.set i (some v)) e' ∧ Fx σ e G H (σ.set i (some v)) e' G H := by
  obtain ⟨rfl, hn⟩ := setv_some h
  exact ⟨r.set hv, .set i v d hn⟩
theorem put_o (r : R K G H σ e) {i : Nat} {p : Addr} {xs : List V} {ds : List D} (hp : H p = some (.lst xs)) (hd : DpAll K G xs ds) (hg : G p = none) (ho : ¬ Ow σ e p) (h : seto e i ds = some e') (G0 H0 : Hp) (σ0 : VSt) (e0 : En) (f : Fx σ0 e0 G0 H0 σ e G H) (h0 : H0 p = none) :
    R K G H (σ.set i (some (.ref p))) e' ∧ Fx σ0 e0 G0 H0 (σ.set i (some (.ref p))) e' G H := by
  obtain ⟨rfl, hn⟩ := seto_some h
  refine ⟨r.setOwn hp hd hg ho, ⟨f.gg, f.hh, f.fr, fun a z => ?_, f.nn, fun j es z => ?_⟩⟩
  · rcases ow_setOwn r.len z with w | w
    · exact f.mm a w
    · rw [w]; exact .inr h0
  · obtain ⟨⟨fs, z1⟩, z2⟩ := f.ke j es z
    have n : i ≠ j := fun t => hn fs (by rw [t]; exact z1)
    exact ⟨⟨fs, by rw [List.getElem?_set_ne n]; exact z1⟩, by rw [List.getElem?_set_ne n]; exact z2⟩
theorem Fin.of {Dn : Ends} {σ' : VSt} {G' H' : Hp} {o : Out} (f : Fx σ e G H σ' e' G' H') (h : Fin K Dn σ e G H o) : Fin K Dn σ' e' G' H' o := by
  cases o with
  | nx e2 => exact fun σ2 G2 H2 r2 f2 => h σ2 G2 H2 r2 (f.trans f2)
  | bk e2 => exact fun σ2 G2 H2 r2 f2 => h σ2 G2 H2 r2 (f.trans f2)
  | ct e2 => exact fun σ2 G2 H2 r2 f2 => h σ2 G2 H2 r2 (f.trans f2)
  | rt d e2 => exact fun v σ2 G2 H2 r2 f2 => h v σ2 G2 H2 r2 (f.trans f2)
theorem mut_at (r : R K G H σ e) {i : Nat} {ds : List D} (h : mutL e i = some ds) : ∃ s p xs, e[i]? = some s ∧ s.mut = true ∧ (s = .own ds ∨ s = .ext ds) ∧ σ[i]? = some (some (.ref p)) ∧ H p = some (.lst xs) ∧ DpAll K G xs ds ∧ G p = none := by
  unfold mutL at h
  split at h
  · rename_i h0
    cases h
    obtain ⟨pp, xs, q1, q2, q3, q4⟩ := r.at_ i _ h0
    exact ⟨_, pp, xs, h0, rfl, .inl rfl, q1, q2, q3, q4⟩
  · rename_i h0
    cases h
    obtain ⟨pp, xs, q1, q2, q3, q4⟩ := r.at_ i _ h0
    exact ⟨_, pp, xs, h0, rfl, .inr rfl, q1, q2, q3, q4⟩
  · cases h
/-- the list at a changed name is written -/
theorem put_l (r : R K G H σ e) {i : Nat} {p : Addr} {xs' : List V} {ds' : List D} (hp : σ[i]? = some (some (.ref p))) (hd : DpAll K G xs' ds') (h : putL e i ds' = some e') : R K G (upd H p (.lst xs')) σ e' ∧ Fx σ e G H σ e' G (upd H p (.lst xs')) := by
  unfold putL at h
  split at h
  · rename_i ds h0
    cases h
    exact ⟨r.write (xs := []) h0 rfl hp (.inl ⟨ds, rfl, rfl⟩) hd, .write h0 rfl hp (.inl ⟨ds, rfl, rfl⟩)⟩
  · rename_i ds h0
    cases h
    exact ⟨r.write (xs := []) h0 rfl hp (.inr ⟨ds, rfl, rfl⟩) hd, .write h0 rfl hp (.inr ⟨ds, rfl, rfl⟩)⟩
  · cases h
end
section
variable {X : Cx} {x y c : Expr} {es : List Expr} {st : Stmt} {sts sts' : List Stmt} {ma mb mc : SE} {m n : SS} {pos p p2 : Pos}
/-! ### blocks -/
theorem db_nil : DB X [] sNext := weakB pss_nil fun Dn σ H ⟨G, e, o, r, hm, q⟩ => by
  cases hm
  exact q σ G H r .refl
theorem seq_ok {t u : TS} {Dn : Ends} {σ : VSt} {H : Hp} (h : tS X.K (sSeq m n) Dn σ H) : tSeq (tS X.K m) (tS X.K n) Dn σ H := by
  obtain ⟨G, e, o, r, hm, q⟩ := h
  obtain ⟨o1, h1, hm⟩ := Option.bind_eq_some_iff.mp hm
  refine ⟨G, e, o1, r, h1, ?_⟩
  cases o1 with
  | nx e1 => exact fun σ1 G1 H1 r1 f1 => ⟨G1, e1, o, r1, hm, q.of f1⟩
  | bk e1 => cases hm; exact q
  | ct e1 => cases hm; exact q
  | rt d e1 => cases hm; exact q
theorem db_cons (h1 : DS X st m) (h2 : DB X sts n) : DB X (st :: sts) (sSeq m n) := weakB (pss_cons h1 h2) fun Dn σ H h => seq_ok (t := tNext) (u := tNext) h
theorem db_one (h1 : DS X st m) : DB X [st] m := pss_one h1
theorem ds_never : DS X st sNever := weakS (ps_never (X := X) (st := st)) fun Dn σ H ⟨G, e, o, r, hm, q⟩ => by cases hm
theorem db_never : DB X sts sNever := weakB (pss_never (X := X) (sts := sts)) fun Dn σ H ⟨G, e, o, r, hm, q⟩ => by cases hm
theorem ds_pass : DS X (.Pass pos) sNext := weakS ps_pass fun Dn σ H ⟨G, e, o, r, hm, q⟩ => by
  cases hm
  exact q σ G H r .refl
theorem ds_break : DS X (.Break pos) sBreak := weakS ps_break fun Dn σ H ⟨G, e, o, r, hm, q⟩ => by
  cases hm
  exact q σ G H r .refl
theorem ds_cont : DS X (.Continue pos) sCont := weakS ps_continue fun Dn σ H ⟨G, e, o, r, hm, q⟩ => by
  cases hm
  exact q σ G H r .refl
theorem ds_ret (h : DE X x ma) : DS X (.Return (some x) pos) (sRet ma) := weakS (ps_ret h) fun Dn σ H ⟨G, e, o, r, hm, q⟩ => by
  obtain ⟨⟨a, e1⟩, h1, hm⟩ := Option.map_eq_some_iff.mp hm
  cases hm
  exact ⟨G, e, a, e1, r, h1, fun v G' H' r1 f1 d1 => q v σ G' H' r1 f1 d1⟩
theorem ds_retN : DS X (.Return none pos) sRetN := weakS ps_retN fun Dn σ H ⟨G, e, o, r, hm, q⟩ => by
  cases hm
  exact q .non σ G H r .refl .non
theorem ds_if {t : ST} (hc : DT X c t) (ha : DB X sts m) (hb : DB X sts' n) : DS X (.If c sts sts' pos) (sIf t m n) := weakS (ps_if hc ha hb) fun Dn σ H ⟨G, e, o, r, hm, q⟩ => by
  obtain ⟨⟨b, e1⟩, h1, hm⟩ := Option.bind_eq_some_iff.mp hm
  refine ⟨G, e, b, e1, r, h1, fun G1 H1 r1 f1 => ?_⟩
  cases b with
  | true => exact ⟨G1, e1, o, r1, hm, q.of f1⟩
  | false => exact ⟨G1, e1, o, r1, hm, q.of f1⟩
theorem ds_expr (h : DE X x ma) (hs : swapsWith x none pos.line X.env = pure false := by rfl) : DS X (.Expr x pos) (sExpr ma) := weakS (ps_expr h hs) fun Dn σ H ⟨G, e, o, r, hm, q⟩ => by
  obtain ⟨⟨a, e1⟩, h1, hm⟩ := Option.map_eq_some_iff.mp hm
  cases hm
  exact ⟨G, e, a, e1, r, h1, fun v G' H' r1 f1 d1 => q σ G' H' r1 f1⟩
/-! ### assignments -/
theorem ds_set (i : Nat) {nm : Str} (hN : X.N.Nodup) (hi : X.N[i]? = some nm) (hx : Loc X.env.scope nm) (hf : X.fn nm = true ∨ X.env.scope.names.lookup nm = some .local) (h : DE X x ma) (hs : swapsWith x (some (.Name nm p)) pos.line X.env = pure false := by rfl) : DS X (.Assign [.Name nm p] x pos) (sSet i ma) :=
  weakS (ps_set hN hi hx h hs hf) fun Dn σ H ⟨G, e, o, r, hm, q⟩ => by
    obtain ⟨⟨a, e1⟩, h1, hm⟩ := Option.bind_eq_some_iff.mp hm
    obtain ⟨e2, h2, hm⟩ := Option.map_eq_some_iff.mp hm
    cases hm
    refine ⟨G, e, a, e1, r, h1, fun v G' H' r1 f1 d1 => ?_⟩
    obtain ⟨r2, f2⟩ := put_v r1 d1 h2
    exact q _ G' H' r2 (f1.trans f2)
theorem ds_own (i : Nat) {nm : Str} {mf : SF} (hN : X.N.Nodup) (hi : X.N[i]? = some nm) (hx : Loc X.env.scope nm) (hf : X.fn nm = true ∨ X.env.scope.names.lookup nm = some .local) (h : DF X x mf) (hs : swapsWith x (some (.Name nm p)) pos.line X.env = pure false := by rfl) : DS X (.Assign [.Name nm p] x pos) (sOwn i mf) :=
  weakS (ps_set hN hi hx h hs hf) fun Dn σ H ⟨G, e, o, r, hm, q⟩ => by
    obtain ⟨⟨a, e1⟩, h1, hm⟩ := Option.bind_eq_some_iff.mp hm
    obtain ⟨e2, h2, hm⟩ := Option.map_eq_some_iff.mp hm
    cases hm
    refine ⟨G, e, a, e1, r, h1, fun pp xs G' H' r1 f1 hp hd hg h0 ho => ?_⟩
    obtain ⟨r2, f2⟩ := put_o r1 hp hd hg ho h2 G H σ e f1 h0
    exact q _ G' H' r2 f2
theorem ds_aug (i : Nat) {nm : Str} {op : Operator} {f : D → D → Option D} (hN : X.N.Nodup) (hi : X.N[i]? = some nm) (hx : Loc X.env.scope nm) (hf : X.fn nm = true ∨ X.env.scope.names.lookup nm = some .local) (ho : OpR X (inplaceOp op) (rD2 X.K f)) (h : DE X x ma) : DS X (.AugAssign (.Name nm p) op x pos) (sAug i f ma) :=
  weakS (ps_aug (ti := rD2 X.K f) hN hi hx h (fun pins s σ H x y v u Q I rx ry q => ho pins s σ H x y v u Q I rx ry q) hf) fun Dn σ H ⟨G, e, o, r, hm, q⟩ => by
    unfold sAug at hm
    split at hm
    · rename_i a h0
      obtain ⟨⟨b, e1⟩, h1, hm⟩ := Option.bind_eq_some_iff.mp hm
      obtain ⟨cc, h2, hm⟩ := Option.bind_eq_some_iff.mp hm
      obtain ⟨e2, h3, hm⟩ := Option.map_eq_some_iff.mp hm
      cases hm
      obtain ⟨v, z1, z2⟩ := r.val h0
      refine ⟨v, z1, G, e, b, e1, r, h1, fun w G1 H1 r1 f1 d1 => ⟨G1, a, b, cc, r1.gh, dp_mono f1.gg _ _ z2, d1, h2, fun z G2 H2 g dz => ?_⟩⟩
      obtain ⟨r2, f2⟩ := put_v (r1.gx g) dz h3
      exact q _ G2 H2 r2 ((f1.trans g.fx).trans f2)
    · cases hm
theorem dg_nm (i : Nat) {nm : Str} (hN : X.N.Nodup) (hi : X.N[i]? = some nm) (hx : Loc X.env.scope nm) (hf : X.fn nm = true ∨ X.env.scope.names.lookup nm = some .local) : DG X (.Name nm p) (gNm i) :=
  weakG (pg_name hN hi hx hf) fun v σ H Q ⟨G, e, d, e', r, hd, hm, q⟩ => by
    obtain ⟨r2, f2⟩ := put_v r hd hm
    exact q _ G H r2 f2
theorem dgs_nil : DGs X [] gsNil := weakGs pgs_nil fun v σ H Q ⟨G, e, d, e', r, hd, hm, q⟩ => by
  unfold gsNil at hm
  split at hm
  · cases hm
    cases hd
    exact ⟨rfl, q σ G H r .refl⟩
  · cases hm
theorem dgs_cons {g : D → En → Option En} {gs : List D → En → Option En} (h1 : DG X x g) (h2 : DGs X es gs) (hs : (assignEach (x :: es) X.env).map (·.2) = assign x X.env :: (assignEach es X.env).map (·.2) := by rfl) : DGs X (x :: es) (gsCons g gs) :=
  weakGs (pgs_cons h1 h2 hs) fun v σ H Q ⟨G, e, d, e', r, hd, hm, q⟩ => by
    unfold gsCons at hm
    split at hm
    · rename_i d0 ds
      obtain ⟨e1, h3, h4⟩ := Option.bind_eq_some_iff.mp hm
      cases hd with
      | cons d1 d2 =>
        exact ⟨_, _, rfl, G, e, d0, e1, r, d1, h3, fun σ1 G1 H1 r1 f1 => ⟨G1, e1, ds, e', r1, dpAll_mono f1.gg _ _ d2, h4, fun σ2 G2 H2 r2 f2 => q σ2 G2 H2 r2 (f1.trans f2)⟩⟩
    · cases hm
theorem dg_tup {k : Nat} {n : Nat} {gs : List D → En → Option En} (hc : X.calm = true) (h : DGs X es gs) (hn : (assignEach es X.env).length = n := by rfl) (hst : (assignEach es X.env).findIdx? (·.1) = none := by rfl) : DG X (.Tuple es k pos) (gTupD n gs) :=
  weakG (pg_tup hc h hn hst) fun v σ H Q ⟨G, e, d, e', r, hd, hm, q⟩ => by
    unfold gTupD at hm
    split at hm
    · split at hm
      · rename_i ds hl
        cases hd with
        | tup hs ha => exact ⟨_, _, rfl, sqT_mono r.gh hs, by rw [DpAll.length ha]; exact hl, G, e, ds, e', r, ha, hm, q⟩
      · cases hm
    · cases hm
theorem ds_asg {tg : Expr} {g : D → En → Option En} (h : DE X x ma) (hg : DG X tg g) (hs : swapsWithSole [tg] x pos.line X.env = pure false := by rfl) (hw : swappedStores [tg] x X.env = pure none := by rfl)
    (h1 : (assignEach [tg] X.env).map (·.2) = [assign tg X.env] := by rfl) : DS X (.Assign [tg] x pos) (sAsg ma g) :=
  weakS (ps_asg h hg hs hw h1) fun Dn σ H ⟨G, e, o, r, hm, q⟩ => by
    obtain ⟨⟨a, e1⟩, h1, hm⟩ := Option.bind_eq_some_iff.mp hm
    obtain ⟨e2, h2, hm⟩ := Option.map_eq_some_iff.mp hm
    cases hm
    exact ⟨G, e, a, e1, r, h1, fun v G1 H1 r1 f1 d1 => ⟨G1, e1, a, e2, r1, d1, h2, fun σ2 G2 H2 r2 f2 => q σ2 G2 H2 r2 (f1.trans f2)⟩⟩
/-! ### lists changed in place -/
theorem ds_app (i : Nat) {nm : Str} {apos cpos : Pos} (hN : X.N[i]? = some nm) (hv : Vis X.env.scope nm) (hd : (nm == ("__debug__" : Str)) = false) (hcd : (nm == ("__classdict__" : Str)) = false) (h : DE X x ma)
    (hfew : ((backTo cpos (starEach [x] X.env)).all (fun z => !z.1) && (backToKw cpos (keywordEach [] X.env)).all (fun z => z.1.isSome)
      && decide (([x]).length + ([] : List Keyword).length + (if ([] : List Keyword).isEmpty then 0 else 1) < 30)) = true := by rfl)
    (hline : (apos.endLine == cpos.line) = true := by rfl) (hs : starEach [x] X.env = (false, eval x X.env) :: starEach [] X.env := by rfl) (hsw : swapsWith (.Call (.Attribute (.Name nm p) "append" apos) [x] [] cpos) none pos.line X.env = pure false := by rfl) :
    DS X (.Expr (.Call (.Attribute (.Name nm p) "append" apos) [x] [] cpos) pos) (sApp i ma) :=
  weakS (ps_expr (pe_bm PySem.F.plainAttrs_list PySem.F.slot_list_append PySem.F.type_list_append mt_append (pe_var hN hv hd hcd) (pa_cons h pa_nil hs) rfl hfew hline hs rfl) hsw) fun Dn σ H ⟨G, e, o, r, hm, q⟩ => by
    obtain ⟨ds0, h0, hm⟩ := Option.bind_eq_some_iff.mp hm
    obtain ⟨⟨a, e1⟩, h1, hm⟩ := Option.bind_eq_some_iff.mp hm
    obtain ⟨ds, h2, hm⟩ := Option.bind_eq_some_iff.mp hm
    split at hm
    · rename_i hl
      obtain ⟨e2, h3, hm⟩ := Option.map_eq_some_iff.mp hm
      cases hm
      obtain ⟨s0, pp, xs0, _, _, _, z1, z2, _, _⟩ := mut_at r h0
      refine ⟨.ref pp, z1, .inl ⟨rfl, _, SqL.of z2⟩, G, e, a, e1, r, h1, fun v G1 H1 r1 f1 d1 => ?_⟩
      obtain ⟨s1, p1, xs, _, _, _, y1, y2, y3, _⟩ := mut_at r1 h2
      rw [z1] at y1
      cases y1
      refine ⟨pp, xs, v, rfl, rfl, y2, by rw [DpAll.length y3]; exact hl, ?_⟩
      obtain ⟨r2, f2⟩ := put_l r1 z1 (DpAll.app y3 (.cons d1 .nil)) h3
      exact q σ G1 _ r2 (f1.trans f2)
    · cases hm
theorem ds_pop (i : Nat) {nm : Str} {apos cpos : Pos} (hN : X.N[i]? = some nm) (hv : Vis X.env.scope nm) (hd : (nm == ("__debug__" : Str)) = false) (hcd : (nm == ("__classdict__" : Str)) = false)
    (hline : (apos.endLine == cpos.line) = true := by rfl) (hsw : swapsWith (.Call (.Attribute (.Name nm p) "pop" apos) [] [] cpos) none pos.line X.env = pure false := by rfl) :
    DS X (.Expr (.Call (.Attribute (.Name nm p) "pop" apos) [] [] cpos) pos) (sPop i) :=
  weakS (ps_expr (pe_bm0 PySem.F.plainAttrs_list PySem.F.slot_list_pop PySem.F.type_list_pop mt_pop (pe_var hN hv hd hcd) rfl hline) hsw) fun Dn σ H ⟨G, e, o, r, hm, q⟩ => by
    obtain ⟨ds, h0, hm⟩ := Option.bind_eq_some_iff.mp hm
    split at hm
    · cases hm
    · rename_i hl
      obtain ⟨e2, h3, hm⟩ := Option.map_eq_some_iff.mp hm
      cases hm
      obtain ⟨s0, pp, xs, _, _, _, z1, z2, z3, _⟩ := mut_at r h0
      have ll := DpAll.length z3
      have hi : xs.length - 1 < xs.length := by omega
      refine ⟨.ref pp, z1, .inl ⟨rfl, _, SqL.of z2⟩, pp, xs, xs[xs.length - 1], rfl, rfl, z2, List.getElem?_eq_getElem hi, ?_⟩
      have hdl : DpAll X.K G xs.dropLast ds.dropLast := by
        rw [List.dropLast_eq_take, List.dropLast_eq_take, ll]
        exact DpAll.take _ z3
      obtain ⟨r2, f2⟩ := put_l r z1 hdl h3
      exact q σ G _ r2 f2
theorem ds_put (i : Nat) {nm : Str} {spos : Pos} (hN : X.N[i]? = some nm) (hv : Vis X.env.scope nm) (hd : (nm == ("__debug__" : Str)) = false) (hcd : (nm == ("__classdict__" : Str)) = false) (hk : DE X y mb) (h : DE X x ma)
    (ha : ∀ v, assign (.Subscript (.Name nm p) y spos) X.env v = (do
      let ov ← holding [v] (eval (.Name nm p) X.env)
      let iv ← holding [v, ov] (eval y X.env)
      standAt spos
      holding [v, ov, iv] (setItem ov iv v)
      release [v, ov, iv] []) := by intro _; rfl) (hs : swapsWithSole [.Subscript (.Name nm p) y spos] x pos.line X.env = pure false := by rfl) (hw : swappedStores [.Subscript (.Name nm p) y spos] x X.env = pure none := by rfl)
    (h1 : (assignEach [.Subscript (.Name nm p) y spos] X.env).map (·.2) = [assign (.Subscript (.Name nm p) y spos) X.env] := by rfl) : DS X (.Assign [.Subscript (.Name nm p) y spos] x pos) (sPut i mb ma) :=
  weakS (ps_asg h (pg_sub (pe_var hN hv hd hcd) hk set_list ha) hs hw h1) fun Dn σ H ⟨G, e, o, r, hm, q⟩ => by
    obtain ⟨⟨a, e1⟩, h1, hm⟩ := Option.bind_eq_some_iff.mp hm
    obtain ⟨ds0, h0, hm⟩ := Option.bind_eq_some_iff.mp hm
    obtain ⟨⟨b, e2⟩, h2, hm⟩ := Option.bind_eq_some_iff.mp hm
    obtain ⟨ds, h3, hm⟩ := Option.bind_eq_some_iff.mp hm
    refine ⟨G, e, a, e1, r, h1, fun v G1 H1 r1 f1 d1 => ?_⟩
    obtain ⟨s0, pp, xs0, _, _, _, z1, z2, _, _⟩ := mut_at r1 h0
    refine ⟨.ref pp, z1, G1, e1, b, e2, r1, h2, fun w G2 H2 r2 f2 d2 => ?_⟩
    cases b with
    | int k =>
      cases d2
      obtain ⟨j, h4, hm⟩ := Option.bind_eq_some_iff.mp hm
      obtain ⟨e3, h5, hm⟩ := Option.map_eq_some_iff.mp hm
      cases hm
      obtain ⟨s1, p1, xs, _, _, _, y1, y2, y3, _⟩ := mut_at r2 h3
      rw [z1] at y1
      cases y1
      refine ⟨pp, xs, k, j, rfl, rfl, y2, by rw [DpAll.length y3]; exact h4, ?_⟩
      obtain ⟨r3, f3⟩ := put_l r2 z1 (DpAll.set j y3 (dp_mono f2.gg _ _ d1)) h5
      exact q σ G2 _ r3 ((f1.trans f2).trans f3)
    | _ => cases hm
theorem ds_ins (i : Nat) {nm : Str} {apos cpos : Pos} (hN : X.N[i]? = some nm) (hv : Vis X.env.scope nm) (hd : (nm == ("__debug__" : Str)) = false) (hcd : (nm == ("__classdict__" : Str)) = false) (hk : DE X y mb) (h : DE X x ma)
    (hfew : ((backTo cpos (starEach [y, x] X.env)).all (fun z => !z.1) && (backToKw cpos (keywordEach [] X.env)).all (fun z => z.1.isSome)
      && decide (([y, x]).length + ([] : List Keyword).length + (if ([] : List Keyword).isEmpty then 0 else 1) < 30)) = true := by rfl)
    (hline : (apos.endLine == cpos.line) = true := by rfl) (hs : starEach [y, x] X.env = (false, eval y X.env) :: starEach [x] X.env := by rfl) (hs2 : starEach [x] X.env = (false, eval x X.env) :: starEach [] X.env := by rfl) (hpl : (backTo cpos (starEach [x] X.env)).any (·.1) = false := by rfl)
    (hsw : swapsWith (.Call (.Attribute (.Name nm p) "insert" apos) [y, x] [] cpos) none pos.line X.env = pure false := by rfl) :
    DS X (.Expr (.Call (.Attribute (.Name nm p) "insert" apos) [y, x] [] cpos) pos) (sIns i mb ma) :=
  weakS (ps_expr (pe_bm PySem.F.plainAttrs_list PySem.F.slot_list_insert PySem.F.type_list_insert mt_insert (pe_var hN hv hd hcd) (pa_cons hk (pa_cons h pa_nil hs2) hs) rfl hfew hline hs hpl) hsw) fun Dn σ H ⟨G, e, o, r, hm, q⟩ => by
    obtain ⟨ds0, h0, hm⟩ := Option.bind_eq_some_iff.mp hm
    obtain ⟨⟨b, e1⟩, h1, hm⟩ := Option.bind_eq_some_iff.mp hm
    obtain ⟨⟨a, e2⟩, h2, hm⟩ := Option.bind_eq_some_iff.mp hm
    obtain ⟨ds, h3, hm⟩ := Option.bind_eq_some_iff.mp hm
    obtain ⟨s0, pp, xs0, _, _, _, z1, z2, _, _⟩ := mut_at r h0
    refine ⟨.ref pp, z1, .inl ⟨rfl, _, SqL.of z2⟩, G, e, b, e1, r, h1, fun w G1 H1 r1 f1 d1 => ⟨G1, e1, a, e2, r1, h2, fun v G2 H2 r2 f2 d2 => ?_⟩⟩
    cases b with
    | int k =>
      cases d1
      dsimp only at hm
      split at hm
      · rename_i hl
        obtain ⟨e3, h5, hm⟩ := Option.map_eq_some_iff.mp hm
        cases hm
        obtain ⟨s1, p1, xs, _, _, _, y1, y2, y3, _⟩ := mut_at r2 h3
        rw [z1] at y1
        cases y1
        refine ⟨pp, xs, k, v, rfl, rfl, y2, by rw [DpAll.length y3]; exact hl.1, hl.2.1, hl.2.2, ?_⟩
        obtain ⟨r3, f3⟩ := put_l r2 z1 (DpAll.app (DpAll.app (DpAll.take k.toNat y3) (.cons d2 .nil)) (DpAll.drop k.toNat y3)) h5
        exact q σ G2 _ r3 ((f1.trans f2).trans f3)
      · cases hm
    | _ => cases hm
end
end PL

set_option maxHeartbeats 4000000
/-! The pure layer, part e: what is walked, for, while, comprehensions, several names at once. -/
namespace PL
open PySem PySem.Spec PyProof.Rows L2

/-- an iterator that hands out these data -/
def ItD (K : PySem.W.Frag) (J : It) (G0 : Hp) (ds : List D) : Prop := ∀ (i : Nat) (G H : Hp), Same G0 G → Same G H →
  (ds[i]? = none → J.stop i H) ∧ ∀ d, ds[i]? = some d → J.go i H ∧ ∀ x H', J.yld i H x H' → ∃ G', Gx G H G' H' ∧ Dp K G' x d
def tI (K : PySem.W.Frag) (m : SF) : TI := fun σ H Rr => ∃ G e ds e', R K G H σ e ∧ m e = some (ds, e') ∧ ∀ J G' H', R K G' H' σ e' → Fx σ e G H σ e' G' H' → ItD K J G' ds → Rr J H'
def DI (X : Cx) (tg x : Expr) (m : SF) : Prop := PI X tg x (tI X.K m)
theorem weakI {X : Cx} {tg x : Expr} {t t' : TI} (h : PI X tg x t) (w : ∀ σ H Q, t' σ H Q → t σ H Q) : PI X tg x t' := ⟨fun pins s σ H Rr I q => h.run pins s σ H Rr I (w σ H Rr q)⟩
theorem itd_list {K : PySem.W.Frag} {G : Hp} {a : Addr} {xs : List V} {ds : List D} (h : SqL K G a xs) (hd : DpAll K G xs ds) : ItD K (Itl K a) G ds := fun i G1 H s1 s2 => by
  have hs : SqL K H a xs := s2.seq (s1.seq h)
  have hd' := dpAll_mono s1 _ _ hd
  refine ⟨fun hi => ⟨xs, hs, ?_⟩, fun d hi => ?_⟩
  · rw [DpAll.length hd]; exact List.getElem?_eq_none_iff.mp hi
  · obtain ⟨v, q1, q2⟩ := DpAll.get hd' hi
    refine ⟨⟨xs, v, hs, q1⟩, fun x H' ⟨e, y⟩ => ?_⟩
    subst e
    have z := y xs hs
    rw [q1] at z
    cases z
    exact ⟨G1, .refl s2, q2⟩
theorem itd_tup {K : PySem.W.Frag} {G : Hp} {a : Addr} {xs : List V} {ds : List D} (h : SqT K G a xs) (hd : DpAll K G xs ds) : ItD K (Itt K a) G ds := fun i G1 H s1 s2 => by
  have hs : SqT K H a xs := sqT_mono s2 (sqT_mono s1 h)
  have hd' := dpAll_mono s1 _ _ hd
  refine ⟨fun hi => ⟨xs, hs, ?_⟩, fun d hi => ?_⟩
  · rw [DpAll.length hd]; exact List.getElem?_eq_none_iff.mp hi
  · obtain ⟨v, q1, q2⟩ := DpAll.get hd' hi
    refine ⟨⟨xs, v, hs, q1⟩, fun x H' ⟨e, y⟩ => ?_⟩
    subst e
    have z := y xs hs
    rw [q1] at z
    cases z
    exact ⟨G1, .refl s2, q2⟩
def rgD (lo : Int) (n : Nat) : List D := (List.range n).map fun i => .int (lo + (i : Nat))
theorem rgD_get {lo : Int} {n i : Nat} : (rgD lo n)[i]? = if i < n then some (.int (lo + (i : Nat))) else none := by
  unfold rgD
  rw [List.getElem?_map]
  by_cases h : i < n
  · rw [List.getElem?_range h, if_pos h]; rfl
  · rw [List.getElem?_eq_none (by rw [List.length_range]; omega), if_neg h]; rfl
theorem itd_rng {K : PySem.W.Frag} {G : Hp} {lo : Int} {n : Nat} : ItD K (Itr lo n) G (rgD lo n) := fun i G1 H s1 s2 => by
  refine ⟨fun hi => ?_, fun d hi => ?_⟩
  · rw [rgD_get] at hi
    split at hi
    · cases hi
    · show n ≤ i; omega
  · rw [rgD_get] at hi
    split at hi
    · rename_i h
      cases hi
      refine ⟨h, fun x H' ⟨e, y⟩ => ?_⟩
      subst e y
      exact ⟨G1, .refl s2, .int _⟩
    · cases hi
/-- a text's signs -/
def chD (z : Str) : List D := z.cps.toList.map fun c => .str ⟨#[c]⟩
theorem chD_get {z : Str} {i : Nat} : (chD z)[i]? = (z.cps[i]?).map fun c => PyData.str ⟨#[c]⟩ := by
  unfold chD
  rw [List.getElem?_map, Array.getElem?_toList]
theorem itd_str {K : PySem.W.Frag} {G : Hp} {z : Str} : ItD K (Its z) G (chD z) := fun i G1 H s1 s2 => by
  refine ⟨fun hi => ?_, fun d hi => ?_⟩
  · rw [chD_get] at hi
    show z.cps.size ≤ i
    cases q : z.cps[i]? with
    | none => exact Array.getElem?_eq_none_iff.mp q
    | some c => rw [q] at hi; cases hi
  · rw [chD_get] at hi
    cases q : z.cps[i]? with
    | none => rw [q] at hi; cases hi
    | some c =>
      rw [q] at hi
      cases hi
      refine ⟨(Array.getElem?_eq_some_iff.mp q).1, fun x H' ⟨e, c', y, w⟩ => ?_⟩
      subst e
      rw [q] at y
      cases y
      subst w
      exact ⟨G1, .refl s2, .str _⟩
def prs (ds es : List D) : List D := (ds.zip es).map fun p => .tuple [p.1, p.2]
theorem prs_get {ds es : List D} {i : Nat} : (prs ds es)[i]? = (ds[i]?).bind fun a => (es[i]?).map fun b => PyData.tuple [a, b] := by
  unfold prs
  rw [List.getElem?_map]
  unfold List.zip
  rw [List.getElem?_zipWith]
  cases ds[i]? <;> cases es[i]? <;> rfl
theorem pair_new {K : PySem.W.Frag} {G H : Hp} (s : Same G H) {T : Addr} (hT : H T = none) {x y : V} {a b : D} (h1 : Dp K G x a) (h2 : Dp K G y b) : Gx G H (upd G T (.tup [x, y])) (upd H T (.tup [x, y])) ∧ Dp K (upd G T (.tup [x, y])) (.ref T) (.tuple [a, b]) :=
  ⟨.new s hT, St.new s hT (.cons h1 (.cons h2 .nil))⟩
theorem itd_zip {K : PySem.W.Frag} {G : Hp} {a b : Addr} {xs ys : List V} {ds es : List D} (h1 : SqL K G a xs) (h2 : SqL K G b ys) (d1 : DpAll K G xs ds) (d2 : DpAll K G ys es) : ItD K (Itz K a b) G (prs ds es) := fun i G1 H s1 s2 => by
  have hx : SqL K H a xs := s2.seq (s1.seq h1)
  have hy : SqL K H b ys := s2.seq (s1.seq h2)
  have d1' := dpAll_mono s1 _ _ d1
  have d2' := dpAll_mono s1 _ _ d2
  refine ⟨fun hi => ⟨xs, ys, hx, hy, ?_⟩, fun d hi => ?_⟩
  · rw [prs_get] at hi
    rw [DpAll.length d1, DpAll.length d2]
    cases q : ds[i]? with
    | none => exact .inl (List.getElem?_eq_none_iff.mp q)
    | some u =>
      rw [q] at hi
      cases q2 : es[i]? with
      | none => exact .inr (List.getElem?_eq_none_iff.mp q2)
      | some w => rw [q2] at hi; cases hi
  · rw [prs_get] at hi
    obtain ⟨u, q1, hi⟩ := Option.bind_eq_some_iff.mp hi
    obtain ⟨w, q2, hi⟩ := Option.map_eq_some_iff.mp hi
    subst hi
    obtain ⟨v, z1, z2⟩ := DpAll.get d1' q1
    obtain ⟨v', z3, z4⟩ := DpAll.get d2' q2
    refine ⟨⟨xs, ys, v, v', hx, hy, z1, z3⟩, fun x H' ⟨T, p, q, e1, e2, e3, y1, y2⟩ => ?_⟩
    have w1 := y1 xs hx
    have w2 := y2 ys hy
    rw [z1] at w1
    rw [z3] at w2
    cases w1
    cases w2
    subst e1 e3
    obtain ⟨g, dd⟩ := pair_new s2 e2 z2 z4
    exact ⟨_, g, dd⟩
def enD (ds : List D) : List D := (ds.zipIdx).map fun p => .tuple [.int (p.2 : Nat), p.1]
theorem enD_get {ds : List D} {i : Nat} : (enD ds)[i]? = (ds[i]?).map fun a => PyData.tuple [.int (i : Nat), a] := by
  unfold enD
  rw [List.getElem?_map, List.getElem?_zipIdx]
  cases ds[i]? <;> simp
theorem itd_enum {K : PySem.W.Frag} {G : Hp} {a : Addr} {xs : List V} {ds : List D} (h1 : SqL K G a xs) (d1 : DpAll K G xs ds) : ItD K (Ite K a) G (enD ds) := fun i G1 H s1 s2 => by
  have hx : SqL K H a xs := s2.seq (s1.seq h1)
  have d1' := dpAll_mono s1 _ _ d1
  refine ⟨fun hi => ⟨xs, hx, ?_⟩, fun d hi => ?_⟩
  · rw [enD_get] at hi
    rw [DpAll.length d1]
    cases q : ds[i]? with
    | none => exact List.getElem?_eq_none_iff.mp q
    | some u => rw [q] at hi; cases hi
  · rw [enD_get] at hi
    obtain ⟨w, q2, hi⟩ := Option.map_eq_some_iff.mp hi
    subst hi
    obtain ⟨v, z1, z2⟩ := DpAll.get d1' q2
    refine ⟨⟨xs, v, hx, z1⟩, fun x H' ⟨T, p, e1, e2, e3, y1⟩ => ?_⟩
    have w1 := y1 xs hx
    rw [z1] at w1
    cases w1
    subst e1 e3
    obtain ⟨g, dd⟩ := pair_new s2 e2 (.int (i : Nat)) z2
    exact ⟨_, g, dd⟩
/-! ### what is walked -/
def iLst (m : SE) : SF := fun e => (m e).bind fun p => match p.1 with
  | .list ds => some (ds, p.2)
  | _ => none
def iTpl (m : SE) : SF := fun e => (m e).bind fun p => match p.1 with
  | .tuple ds => some (ds, p.2)
  | _ => none
def iTxt (m : SE) : SF := fun e => (m e).bind fun p => match p.1 with
  | .str z => some (chD z, p.2)
  | _ => none
def small62 (i : Int) : Bool := decide (-(2 ^ 62) ≤ i) && decide (i < 2 ^ 62)
def iRg1 (m : SA) : SF := fun e => (m e).bind fun p => match p.1 with
  | [.int j] => if small62 j then some (rgD 0 j.toNat, p.2) else none
  | _ => none
def iRg2 (m : SA) : SF := fun e => (m e).bind fun p => match p.1 with
  | [.int i, .int j] => if small62 i && small62 j then some (rgD i (j - i).toNat, p.2) else none
  | _ => none
def iZp (m : SA) : SF := fun e => (m e).bind fun p => match p.1 with
  | [.list ds, .list es] => some (prs ds es, p.2)
  | _ => none
def iEn (m : SA) : SF := fun e => (m e).bind fun p => match p.1 with
  | [.list ds] => some (enD ds, p.2)
  | _ => none
section
variable {X : Cx} {x y c tg : Expr} {es : List Expr} {ma mb mc : SE} {pos p p2 : Pos}
theorem di_list (h : DE X x ma) : DI X tg x (iLst ma) := weakI (pi_list h) fun σ H Rr ⟨G, e, ds, e', r, hm, q⟩ => by
  obtain ⟨⟨a, e1⟩, h1, hm⟩ := Option.bind_eq_some_iff.mp hm
  refine ⟨G, e, a, e1, r, h1, fun v G1 H1 r1 f1 d1 => ?_⟩
  cases a with
  | list es =>
    cases hm
    cases d1 with
    | lst hs ha => exact ⟨_, rfl, ⟨_, r1.gh.seq hs⟩, q _ G1 H1 r1 f1 (itd_list hs ha)⟩
  | _ => cases hm
theorem di_tup (h : DE X x ma) : DI X tg x (iTpl ma) := weakI (pi_tup h) fun σ H Rr ⟨G, e, ds, e', r, hm, q⟩ => by
  obtain ⟨⟨a, e1⟩, h1, hm⟩ := Option.bind_eq_some_iff.mp hm
  refine ⟨G, e, a, e1, r, h1, fun v G1 H1 r1 f1 d1 => ?_⟩
  cases a with
  | tuple es =>
    cases hm
    cases d1 with
    | tup hs ha => exact ⟨_, rfl, ⟨_, sqT_mono r1.gh hs⟩, q _ G1 H1 r1 f1 (itd_tup hs ha)⟩
  | _ => cases hm
theorem di_str (h : DE X x ma) : DI X tg x (iTxt ma) := weakI (pi_str h) fun σ H Rr ⟨G, e, ds, e', r, hm, q⟩ => by
  obtain ⟨⟨a, e1⟩, h1, hm⟩ := Option.bind_eq_some_iff.mp hm
  refine ⟨G, e, a, e1, r, h1, fun v G1 H1 r1 f1 d1 => ?_⟩
  cases a with
  | str z =>
    cases hm
    cases d1
    exact ⟨z, rfl, q _ G1 H1 r1 f1 itd_str⟩
  | _ => cases hm
theorem di_rg1 {m : SA} (hg : Gl X "range") (hm : X.mg "range" = none) (ha : DA X [x] m) (hs : starEach [x] X.env = [(false, eval x X.env)] := by rfl) : DI X tg (.Call (.Name "range" p) [x] [] pos) (iRg1 m) :=
  weakI (pi_range1 hg hm ha hs) fun σ H Rr ⟨G, e, ds, e', r, hm, q⟩ => by
    obtain ⟨⟨a, e1⟩, h1, hm⟩ := Option.bind_eq_some_iff.mp hm
    refine ⟨G, e, a, e1, r, h1, fun v G1 H1 r1 f1 d1 => ?_⟩
    dsimp only at hm
    split at hm
    · split at hm
      · rename_i hb
        cases hm
        unfold small62 at hb
        rw [Bool.and_eq_true, decide_eq_true_eq, decide_eq_true_eq] at hb
        cases d1 with
        | cons d1 d2 =>
          cases d1
          cases d2
          exact ⟨_, rfl, hb.1, hb.2, q _ G1 H1 r1 f1 itd_rng⟩
      · cases hm
    · cases hm
theorem di_rg2 {m : SA} (hg : Gl X "range") (hm : X.mg "range" = none) (ha : DA X [x, y] m) (hs : starEach [x, y] X.env = [(false, eval x X.env), (false, eval y X.env)] := by rfl) (hs2 : starEach [y] X.env = [(false, eval y X.env)] := by rfl) : DI X tg (.Call (.Name "range" p) [x, y] [] pos) (iRg2 m) :=
  weakI (pi_range2 hg hm ha hs hs2) fun σ H Rr ⟨G, e, ds, e', r, hm, q⟩ => by
    obtain ⟨⟨a, e1⟩, h1, hm⟩ := Option.bind_eq_some_iff.mp hm
    refine ⟨G, e, a, e1, r, h1, fun v G1 H1 r1 f1 d1 => ?_⟩
    dsimp only at hm
    split at hm
    · split at hm
      · rename_i hb
        cases hm
        unfold small62 at hb
        simp only [Bool.and_eq_true, decide_eq_true_eq] at hb
        cases d1 with
        | cons d1 d2 =>
          cases d1
          cases d2 with
          | cons d2 d3 =>
            cases d2
            cases d3
            exact ⟨_, _, rfl, ⟨hb.1.1, hb.1.2, hb.2.1, hb.2.2⟩, q _ G1 H1 r1 f1 itd_rng⟩
      · cases hm
    · cases hm
theorem di_zip {m : SA} {elts : List Expr} {kk : Nat} {tpos : Pos} (hg : Gl X "zip") (hm : X.mg "zip" = none) (ha : DA X [x, y] m) (hs : starEach [x, y] X.env = (false, eval x X.env) :: starEach [y] X.env := by rfl) (hpl : (backTo pos (starEach [y] X.env)).any (·.1) = false := by rfl) :
    DI X (.Tuple elts kk tpos) (.Call (.Name "zip" p) [x, y] [] pos) (iZp m) :=
  weakI (pi_zip hg hm ha hs hpl) fun σ H Rr ⟨G, e, ds, e', r, hm, q⟩ => by
    obtain ⟨⟨a, e1⟩, h1, hm⟩ := Option.bind_eq_some_iff.mp hm
    refine ⟨G, e, a, e1, r, h1, fun v G1 H1 r1 f1 d1 => ?_⟩
    dsimp only at hm
    split at hm
    · cases hm
      cases d1 with
      | cons d1 d2 =>
        cases d1 with
        | lst hs1 ha1 =>
          cases d2 with
          | cons d2 d3 =>
            cases d2 with
            | lst hs2 ha2 =>
              cases d3
              exact ⟨_, _, _, _, rfl, r1.gh.seq hs1, r1.gh.seq hs2, q _ G1 H1 r1 f1 (itd_zip hs1 hs2 ha1 ha2)⟩
    · cases hm
theorem di_enum {m : SA} {elts : List Expr} {kk : Nat} {tpos : Pos} (hg : Gl X "enumerate") (hm : X.mg "enumerate" = none) (ha : DA X [x] m) (hs : starEach [x] X.env = [(false, eval x X.env)] := by rfl) :
    DI X (.Tuple elts kk tpos) (.Call (.Name "enumerate" p) [x] [] pos) (iEn m) :=
  weakI (pi_enum hg hm ha hs) fun σ H Rr ⟨G, e, ds, e', r, hm, q⟩ => by
    obtain ⟨⟨a, e1⟩, h1, hm⟩ := Option.bind_eq_some_iff.mp hm
    refine ⟨G, e, a, e1, r, h1, fun v G1 H1 r1 f1 d1 => ?_⟩
    dsimp only at hm
    split at hm
    · cases hm
      cases d1 with
      | cons d1 d2 =>
        cases d1 with
        | lst hs1 ha1 =>
          cases d2
          exact ⟨_, _, rfl, r1.gh.seq hs1, q _ G1 H1 r1 f1 (itd_enum hs1 ha1)⟩
    · cases hm
/-! ### for -/
theorem ds_for {body : List Stmt} {mi : SF} {g : D → En → Option En} {b : SS} (hp : PassesOwn (model X.prog X.w) X.A X.env X.xe) (hc : X.calm = true) (hi : DI X tg x mi) (hg : DG X tg g) (hb : DB X body b)
    (hs : ∀ v, foldedSetIterable x X.env v = pure v := by intro _; rfl) : DS X (.For tg x body [] pos) (sFor mi g b) :=
  weakS (ps_for hp hc hi hg hb hs) fun Dn σ H ⟨G, e, o, r, hm, q⟩ => by
    obtain ⟨⟨ds, e1⟩, h1, hm⟩ := Option.bind_eq_some_iff.mp hm
    refine ⟨G, e, ds, e1, r, h1, fun J G1 H1 r1 f1 hJ => ?_⟩
    refine ⟨fun i m σ2 H2 => m = ds.length - i ∧ ∃ G2 e2 o2, R X.K G2 H2 σ2 e2 ∧ Same G1 G2 ∧ forL g b (ds.drop i) e2 = some o2 ∧ Fin X.K Dn σ2 e2 G2 H2 o2, ⟨ds.length, by simp, G1, e1, o, r1, .refl _, hm, q.of f1⟩, ?_⟩
    rintro i m σ2 H2 ⟨rfl, G2, e2, o2, r2, s2, hl, hF⟩
    obtain ⟨j1, j2⟩ := hJ i G2 H2 s2 r2.gh
    cases hd : ds[i]? with
    | none =>
      have hlen : ds.length ≤ i := List.getElem?_eq_none_iff.mp hd
      rw [List.drop_eq_nil_of_le hlen] at hl
      cases hl
      exact .inl ⟨j1 hd, hF σ2 G2 H2 r2 .refl⟩
    | some d =>
      have hlt : i < ds.length := (List.getElem?_eq_some_iff.mp hd).1
      have hdi : ds.drop i = d :: ds.drop (i + 1) := by
        rw [List.drop_eq_getElem_cons hlt]
        rw [List.getElem?_eq_getElem hlt] at hd
        rw [Option.some.inj hd]
      rw [hdi] at hl
      obtain ⟨e3, h3, hl⟩ := Option.bind_eq_some_iff.mp hl
      obtain ⟨o4, h4, hl⟩ := Option.bind_eq_some_iff.mp hl
      obtain ⟨jg, jy⟩ := j2 d hd
      refine .inr ⟨jg, fun σ' H' => ∃ G' e' o', R X.K G' H' σ' e' ∧ Same G1 G' ∧ forL g b (ds.drop (i + 1)) e' = some o' ∧ Fin X.K Dn σ' e' G' H' o', fun σ' H' w => ⟨ds.length - (i + 1), by omega, rfl, w⟩, fun v H3 hy => ?_⟩
      obtain ⟨G3, g3, dv⟩ := jy v H3 hy
      have r3 := r2.gx g3
      have f3 : Fx σ2 e2 G2 H2 σ2 e2 G3 H3 := g3.fx
      refine ⟨G3, e2, d, e3, r3, dv, h3, fun σ4 G4 H4 r4 f4 => ⟨G4, e3, o4, r4, h4, ?_⟩⟩
      have f5 := f3.trans f4
      have s4 : Same G1 G4 := s2.trans f5.gg
      cases o4 with
      | nx e5 => exact fun σ5 G5 H5 r5 f6 => ⟨G5, e5, o2, r5, s4.trans f6.gg, hl, hF.of (f5.trans f6)⟩
      | ct e5 => exact fun σ5 G5 H5 r5 f6 => ⟨G5, e5, o2, r5, s4.trans f6.gg, hl, hF.of (f5.trans f6)⟩
      | bk e5 =>
        cases hl
        exact fun σ5 G5 H5 r5 f6 => hF σ5 G5 H5 r5 (f5.trans f6)
      | rt rr e5 =>
        cases hl
        exact fun u σ5 G5 H5 r5 f6 d6 => hF u σ5 G5 H5 r5 (f5.trans f6) d6
/-! ### while -/
theorem ds_while {body : List Stmt} {t : ST} {b : SS} (hp : PassesOwn (model X.prog X.w) X.A X.env X.xe) (hc : DT X c t) (hb : DB X body b) : DS X (.While c body [] pos) (sWhile t b) :=
  weakS (ps_while hp hc hb) fun Dn σ H ⟨G, e, o, r, hm, q⟩ => by
    refine ⟨fun m σ2 H2 => ∃ G2 e2 o2, R X.K G2 H2 σ2 e2 ∧ whL t b m e2 = some o2 ∧ Fin X.K Dn σ2 e2 G2 H2 o2, ⟨fuel, G, e, o, r, hm, q⟩, ?_⟩
    rintro m σ2 H2 ⟨G2, e2, o2, r2, hl, hF⟩
    cases m with
    | zero => cases hl
    | succ m =>
      obtain ⟨⟨k, e3⟩, h3, hl⟩ := Option.bind_eq_some_iff.mp hl
      refine ⟨G2, e2, k, e3, r2, h3, fun G3 H3 r3 f3 => ?_⟩
      cases k with
      | false =>
        cases hl
        exact hF σ2 G3 H3 r3 f3
      | true =>
        obtain ⟨o4, h4, hl⟩ := Option.bind_eq_some_iff.mp hl
        refine ⟨fun σ' H' => ∃ G' e' o', R X.K G' H' σ' e' ∧ whL t b m e' = some o' ∧ Fin X.K Dn σ' e' G' H' o', fun σ' H' w => ⟨m, Nat.lt_succ_self m, w⟩, G3, e3, o4, r3, h4, ?_⟩
        cases o4 with
        | nx e5 => exact fun σ5 G5 H5 r5 f6 => ⟨G5, e5, o2, r5, hl, hF.of (f3.trans f6)⟩
        | ct e5 => exact fun σ5 G5 H5 r5 f6 => ⟨G5, e5, o2, r5, hl, hF.of (f3.trans f6)⟩
        | bk e5 =>
          cases hl
          exact fun σ5 G5 H5 r5 f6 => hF σ5 G5 H5 r5 (f3.trans f6)
        | rt rr e5 =>
          cases hl
          exact fun u σ5 G5 H5 r5 f6 d6 => hF u σ5 G5 H5 r5 (f3.trans f6) d6
end
end PL

set_option maxHeartbeats 4000000
/-! The pure layer, part f: comprehensions, several names at once. -/
namespace PL
open PySem PySem.Spec PyProof.Rows L2

/-! ### wiped slots -/
def wipeE (e : En) : List Nat → En
  | [] => e
  | v :: vs => (wipeE e vs).set v .un
theorem wipeE_len (e : En) : ∀ vs, (wipeE e vs).length = e.length
  | [] => rfl
  | v :: vs => by unfold wipeE; rw [List.length_set, wipeE_len e vs]
theorem wipeE_out {e : En} {i : Nat} : ∀ {vs : List Nat}, i ∉ vs → (wipeE e vs)[i]? = e[i]?
  | [], _ => rfl
  | v :: vs, h => by
    unfold wipeE
    rw [List.getElem?_set_ne (fun z => h (by rw [z]; exact List.mem_cons_self))]
    exact wipeE_out fun z => h (List.mem_cons_of_mem _ z)
theorem wipeE_in {e : En} {i : Nat} : ∀ {vs : List Nat} {s : Sl}, i ∈ vs → (wipeE e vs)[i]? = some s → s = .un
  | v :: vs, s, h, q => by
    unfold wipeE at q
    by_cases hv : v = i
    · subst hv
      have hl : v < (wipeE e vs).length := by have := (List.getElem?_eq_some_iff.mp q).1; simpa using this
      rw [List.getElem?_set_self hl] at q
      exact (Option.some.inj q).symm
    · rw [List.getElem?_set_ne hv] at q
      rcases List.mem_cons.mp h with z | z
      · exact absurd z.symm hv
      · exact wipeE_in z q
theorem wipe_set {σ : VSt} {i : Nat} {x : Option V} : ∀ {vs : List Nat}, i ∈ vs → wipe (σ.set i x) vs = wipe σ vs := by
  intro vs hi
  apply List.ext_getElem?
  intro j
  by_cases hj : j ∈ vs
  · have un : ∀ τ : VSt, τ.length = σ.length → (wipe τ vs)[j]? = if j < σ.length then some none else none := fun τ hτ => by
      by_cases hl : j < σ.length
      · rw [if_pos hl]
        cases q : (wipe τ vs)[j]? with
        | none =>
          have := List.getElem?_eq_none_iff.mp q
          rw [wipe_length] at this
          omega
        | some o =>
          cases o with
          | none => rfl
          | some v => exact absurd hj (wipe_some q).2
      · rw [if_neg hl]
        exact List.getElem?_eq_none (by rw [wipe_length]; omega)
    rw [un _ (by simp), un σ rfl]
  · rw [wipe_out hj, wipe_out hj, List.getElem?_set_ne (fun z => hj (by rw [← z]; exact hi))]
theorem wipe_wipe (σ : VSt) (vs : List Nat) : wipe (wipe σ vs) vs = wipe σ vs := by
  apply List.ext_getElem?
  intro j
  by_cases hj : j ∈ vs
  · cases q1 : (wipe (wipe σ vs) vs)[j]? with
    | none =>
      have := List.getElem?_eq_none_iff.mp q1
      rw [wipe_length, wipe_length] at this
      exact (List.getElem?_eq_none (by rw [wipe_length]; exact this)).symm
    | some o =>
      cases o with
      | some z => exact absurd hj (wipe_some q1).2
      | none =>
        have hl := (List.getElem?_eq_some_iff.mp q1).1
        rw [wipe_length, wipe_length] at hl
        cases q2 : (wipe σ vs)[j]? with
        | none =>
          have := List.getElem?_eq_none_iff.mp q2
          rw [wipe_length] at this
          omega
        | some o =>
          cases o with
          | none => rfl
          | some z => exact absurd hj (wipe_some q2).2
  · rw [wipe_out hj]
section
variable {K : PySem.W.Frag} {G H : Hp} {σ : VSt} {e : En} {vs : List Nat}
theorem R.wipe (r : R K G H σ e) : R K G H (wipe σ vs) (wipeE e vs) := by
  have sub : ∀ {i : Nat} {s : Sl}, (wipeE e vs)[i]? = some s → s.mut = true → i ∉ vs ∧ e[i]? = some s := fun {i s} q m => by
    by_cases hi : i ∈ vs
    · rw [wipeE_in hi q] at m; cases m
    · exact ⟨hi, by rw [← wipeE_out hi]; exact q⟩
  refine ⟨r.gh, by rw [wipeE_len, wipe_length]; exact r.len, fun i s q => ?_, fun i j s t a q1 q2 m1 m2 p1 p2 => ?_⟩
  · by_cases hi : i ∈ vs
    · rw [wipeE_in hi q]; exact trivial
    · rw [wipe_out hi]
      rw [wipeE_out hi] at q
      exact r.at_ i s q
  · obtain ⟨n1, w1⟩ := sub q1 m1
    obtain ⟨n2, w2⟩ := sub q2 m2
    rw [wipe_out n1] at p1
    rw [wipe_out n2] at p2
    exact r.inj i j s t a w1 w2 m1 m2 p1 p2
theorem ow_wipe {a : Addr} (h : Ow (wipe σ vs) (wipeE e vs) a) : Ow σ e a := by
  obtain ⟨i, s, q, m, p⟩ := h
  by_cases hi : i ∈ vs
  · rw [wipeE_in hi q] at m; cases m
  · rw [wipe_out hi] at p
    rw [wipeE_out hi] at q
    exact ⟨i, s, q, m, p⟩
/-- something aside is written -/
theorem R.aside (r : R K G H σ e) {p : Addr} {o : HO} (hg : G p = none) (ho : ¬ Ow σ e p) : R K G (upd H p o) σ e := by
  refine ⟨fun b u z => ?_, r.len, fun i s q => ?_, r.inj⟩
  · rw [upd_ne (fun t => by rw [t, hg] at z; cases z)]
    exact r.gh b u z
  · have w := r.at_ i s q
    have nep : ∀ {b : Addr}, s.mut = true → σ[i]? = some (some (.ref b)) → b ≠ p := fun {b} mt yb t => ho (by rw [← t]; exact ⟨i, s, q, mt, yb⟩)
    cases s with
    | un => exact w
    | val d => exact w
    | own es => obtain ⟨b, ys, z1, z2, z3, z4⟩ := w; exact ⟨b, ys, z1, by rw [upd_ne (nep rfl z1)]; exact z2, z3, z4⟩
    | ext es => obtain ⟨b, ys, z1, z2, z3, z4⟩ := w; exact ⟨b, ys, z1, by rw [upd_ne (nep rfl z1)]; exact z2, z3, z4⟩
theorem Fx.aside {G0 H0 : Hp} {σ0 : VSt} {e0 : En} (f : Fx σ0 e0 G0 H0 σ e G H) {p : Addr} {o : HO} (h0 : H0 p = none) : Fx σ0 e0 G0 H0 σ e G (upd H p o) := by
  refine ⟨f.gg, fun a u z n => ?_, f.fr, f.mm, fun a z => ?_, f.ke⟩
  · rw [upd_ne (fun t => by rw [t, h0] at z; cases z)]
    exact f.hh a u z n
  · by_cases t : a = p
    · rw [t, upd_same]; exact fun w => nomatch w
    · rw [upd_ne t]; exact f.nn a z
theorem not_ow {G0 H0 : Hp} {σ0 : VSt} {e0 : En} (f : Fx σ0 e0 G0 H0 σ e G H) {p : Addr} (h : H0 p ≠ none) (n : ¬ Ow σ0 e0 p) : ¬ Ow σ e p := f.nm h n
end

/-! ### a comprehension's target -/
def tGc (K : PySem.W.Frag) (vs : List Nat) (g : D → En → Option En) : TG := fun v σ H Q => ∃ G e d e', R K G H σ e ∧ Dp K G v d ∧ g d e = some e' ∧ ∀ σ', wipe σ' vs = wipe σ vs → R K G H σ' e' → Fx σ e G H σ' e' G H → Q σ' H
def tGsc (K : PySem.W.Frag) (vs : List Nat) (g : List D → En → Option En) : TGs := fun v σ H Q => ∃ G e d e', R K G H σ e ∧ DpAll K G v d ∧ g d e = some e' ∧ ∀ σ', wipe σ' vs = wipe σ vs → R K G H σ' e' → Fx σ e G H σ' e' G H → Q σ' H
def DGc (X : Cx) (x : Expr) (vs : List Nat) (g : D → En → Option En) : Prop := PG X x (tGc X.K vs g)
def DGsc (X : Cx) (x : List Expr) (vs : List Nat) (g : List D → En → Option En) : Prop := PGs X x (tGsc X.K vs g)
def DTs (X : Cx) (ifs : List Expr) (m : ST) : Prop := PTs X ifs (tT X.K m)
def cYes : ST := fun e => some (true, e)
section
variable {X : Cx} {x y c tg : Expr} {es : List Expr} {vs : List Nat} {ma mb mc : SE} {pos p p2 : Pos}
theorem dgc_nm (i : Nat) {nm : Str} (hN : X.N.Nodup) (hi : X.N[i]? = some nm) (hx : Loc X.env.scope nm) (hf : X.fn nm = true ∨ X.env.scope.names.lookup nm = some .local) (hm : i ∈ vs) : DGc X (.Name nm p) vs (gNm i) :=
  weakG (pg_name hN hi hx hf) fun v σ H Q ⟨G, e, d, e', r, hd, h, q⟩ => by
    obtain ⟨r2, f2⟩ := put_v r hd h
    exact q _ (wipe_set hm) r2 f2
theorem dgsc_nil : DGsc X [] vs gsNil := weakGs pgs_nil fun v σ H Q ⟨G, e, d, e', r, hd, hm, q⟩ => by
  unfold gsNil at hm
  split at hm
  · cases hm
    cases hd
    exact ⟨rfl, q σ rfl r .refl⟩
  · cases hm
theorem dgsc_cons {g : D → En → Option En} {gs : List D → En → Option En} (h1 : DGc X x vs g) (h2 : DGsc X es vs gs) (hs : (assignEach (x :: es) X.env).map (·.2) = assign x X.env :: (assignEach es X.env).map (·.2) := by rfl) : DGsc X (x :: es) vs (gsCons g gs) :=
  weakGs (pgs_cons h1 h2 hs) fun v σ H Q ⟨G, e, d, e', r, hd, hm, q⟩ => by
    unfold gsCons at hm
    split at hm
    · rename_i d0 ds
      obtain ⟨e1, h3, h4⟩ := Option.bind_eq_some_iff.mp hm
      cases hd with
      | cons d1 d2 =>
        exact ⟨_, _, rfl, G, e, d0, e1, r, d1, h3, fun σ1 w1 r1 f1 => ⟨G, e1, ds, e', r1, d2, h4, fun σ2 w2 r2 f2 => q σ2 (w2.trans w1) r2 (f1.trans f2)⟩⟩
    · cases hm
theorem dgc_tup {k : Nat} {n : Nat} {gs : List D → En → Option En} (hc : X.calm = true) (h : DGsc X es vs gs) (hn : (assignEach es X.env).length = n := by rfl) (hst : (assignEach es X.env).findIdx? (·.1) = none := by rfl) : DGc X (.Tuple es k pos) vs (gTupD n gs) :=
  weakG (pg_tup hc h hn hst) fun v σ H Q ⟨G, e, d, e', r, hd, hm, q⟩ => by
    unfold gTupD at hm
    split at hm
    · split at hm
      · rename_i ds hl
        cases hd with
        | tup hs ha => exact ⟨_, _, rfl, sqT_mono r.gh hs, by rw [DpAll.length ha]; exact hl, G, e, ds, e', r, ha, hm, q⟩
      · cases hm
    · cases hm
theorem dts_nil : DTs X [] cYes := ⟨fun pins s σ H Q I ⟨G, e, b, e', r, hm, q⟩ => by
  cases hm
  exact pts_nil.run pins s σ H Q I (q G H r .refl)⟩
theorem dts_one {t : ST} (h : DT X c t) : DTs X [c] t := pts_one h

/-! ### comprehensions -/
def compL (g : D → En → Option En) (t : ST) (me : SE) (vs : List Nat) : List D → En → Option (List D × En)
  | [], e => some ([], e)
  | d :: ds, e => (g d e).bind fun e1 => (t e1).bind fun q => if q.1 = true then (me q.2).bind fun r => (compL g t me vs ds (wipeE r.2 vs)).map fun z => (r.1 :: z.1, z.2) else compL g t me vs ds (wipeE q.2 vs)
/-- the outer values of the comprehension's names come back -/
def backE (e0 : En) (e : En) : List Nat → En
  | [] => e
  | v :: vs => (backE e0 e vs).set v (match e0[v]? with
    | some (.val d) => .val d
    | _ => .un)
def noExt (e : En) (vs : List Nat) : Bool := vs.all fun i => match e[i]? with
  | some (.ext _) => false
  | _ => true
def fComp (mi : SF) (g : D → En → Option En) (t : ST) (me : SE) (vs : List Nat) : SF := fun e => (mi e).bind fun p => (compL g t me vs p.1 (wipeE p.2 vs)).bind fun z =>
  if noExt p.2 vs = true ∧ z.1.length ≤ sizeLine then some (z.1, backE p.2 z.2 vs) else none
theorem backE_len {e0 e : En} : ∀ vs, (backE e0 e vs).length = e.length
  | [] => rfl
  | v :: vs => by unfold backE; rw [List.length_set, backE_len vs]
theorem backE_out {e0 e : En} {i : Nat} : ∀ {vs : List Nat}, i ∉ vs → (backE e0 e vs)[i]? = e[i]?
  | [], _ => rfl
  | v :: vs, h => by
    unfold backE
    rw [List.getElem?_set_ne (fun z => h (by rw [z]; exact List.mem_cons_self))]
    exact backE_out fun z => h (List.mem_cons_of_mem _ z)
theorem backE_in {e0 e : En} {i : Nat} {s : Sl} : ∀ {vs : List Nat}, i ∈ vs → (backE e0 e vs)[i]? = some s → s = .un ∨ ∃ d, s = .val d ∧ e0[i]? = some (.val d)
  | v :: vs, h, q => by
    unfold backE at q
    by_cases hv : v = i
    · subst hv
      have hl : v < (backE e0 e vs).length := by have := (List.getElem?_eq_some_iff.mp q).1; simpa using this
      rw [List.getElem?_set_self hl] at q
      have q := (Option.some.inj q).symm
      cases z : e0[v]? with
      | none => rw [z] at q; exact .inl q
      | some w =>
        rw [z] at q
        cases w with
        | val d => exact .inr ⟨d, q, rfl⟩
        | un => exact .inl q
        | own _ => exact .inl q
        | ext _ => exact .inl q
    · rw [List.getElem?_set_ne hv] at q
      rcases List.mem_cons.mp h with z | z
      · exact absurd z.symm hv
      · exact backE_in z q
/-- behind the block: the outer names again -/
theorem back_ok {K : PySem.W.Frag} {G H G1 H1 : Hp} {σ : VSt} {e0 e : En} (r0 : R K G H σ e0) (hn : noExt e0 vs = true) (r : R K G1 H1 (wipe σ vs) e) (f : Fx (wipe σ vs) (wipeE e0 vs) G H (wipe σ vs) e G1 H1) :
    R K G1 H1 σ (backE e0 e vs) ∧ Fx σ e0 G H σ (backE e0 e vs) G1 H1 := by
  have sub : ∀ {i : Nat} {s : Sl}, (backE e0 e vs)[i]? = some s → s.mut = true → i ∉ vs ∧ e[i]? = some s := fun {i s} q m => by
    by_cases hi : i ∈ vs
    · rcases backE_in hi q with z | ⟨d, z, _⟩
      · rw [z] at m; cases m
      · rw [z] at m; cases m
    · exact ⟨hi, by rw [← backE_out hi]; exact q⟩
  refine ⟨⟨r.gh, by rw [backE_len, r.len, wipe_length], fun i s q => ?_, fun i j s t a q1 q2 m1 m2 p1 p2 => ?_⟩, ⟨f.gg, fun a o z n => f.hh a o z fun w => n (ow_wipe w), fun a z n g => f.fr a z (fun w => n (ow_wipe w)) g, fun a z => ?_, f.nn, fun i ds z => ?_⟩⟩
  · by_cases hi : i ∈ vs
    · rcases backE_in hi q with z | ⟨d, z, w⟩
      · rw [z]; exact trivial
      · rw [z]
        obtain ⟨v, y1, y2⟩ := r0.val w
        exact ⟨v, y1, dp_mono f.gg _ _ y2⟩
    · rw [backE_out hi] at q
      have w := r.at_ i s q
      rw [wipe_out hi] at w
      exact w
  · obtain ⟨n1, w1⟩ := sub q1 m1
    obtain ⟨n2, w2⟩ := sub q2 m2
    exact r.inj i j s t a w1 w2 m1 m2 (by rw [wipe_out n1]; exact p1) (by rw [wipe_out n2]; exact p2)
  · obtain ⟨i, s, q, m, y⟩ := z
    obtain ⟨n, w⟩ := sub q m
    rcases f.mm a ⟨i, s, w, m, by rw [wipe_out n]; exact y⟩ with t | t
    · exact .inl (ow_wipe t)
    · exact .inr t
  · have hi : i ∉ vs := fun hi => by
      have := List.all_eq_true.mp hn i hi
      rw [z] at this
      cases this
    obtain ⟨⟨ds', y⟩, _⟩ := f.ke i ds (by rw [wipeE_out hi]; exact z)
    exact ⟨⟨ds', by rw [backE_out hi]; exact y⟩, rfl⟩
theorem lc_ok {K : PySem.W.Frag} {mi : SF} {g : D → En → Option En} {t : ST} {me : SE} {σ : VSt} {H : Hp} {Q : VK} (h : tF K (fComp mi g t me vs) σ H Q) : tLc (tI K mi) (tGc K vs g) (tT K t) (tE K me) vs σ H Q := by
  obtain ⟨G, e, res, e', r, hm, q⟩ := h
  obtain ⟨⟨ds, e1⟩, h1, hm⟩ := Option.bind_eq_some_iff.mp hm
  obtain ⟨⟨rs, e2⟩, h2, hm⟩ := Option.bind_eq_some_iff.mp hm
  split at hm
  case isFalse => cases hm
  rename_i hcond
  obtain ⟨hne, hlen⟩ := hcond
  cases hm
  refine ⟨G, e, ds, e1, r, h1, fun J G1 H1 r1 f1 hJ Dd hD => ?_⟩
  have hD0 : H Dd = none := by
    cases z : H Dd with
    | none => rfl
    | some o => exact absurd hD (f1.nn Dd (ne_none_of z))
  have hGD : G1 Dd = none := r1.gh.free hD
  refine ⟨fun i m H2 => m = ds.length - i ∧ ∃ G2 eb acc ad rd, R K G2 H2 (wipe σ vs) eb ∧ Fx (wipe σ vs) (wipeE e1 vs) G1 H1 (wipe σ vs) eb G2 H2 ∧ H2 Dd = some (.lst acc) ∧ G2 Dd = none ∧ ¬ Ow (wipe σ vs) eb Dd ∧ DpAll K G2 acc ad ∧ compL g t me vs (ds.drop i) eb = some (rd, e2) ∧ ad ++ rd = rs, ⟨ds.length, by simp, G1, wipeE e1 vs, [], [], rs, ?_⟩, ?_⟩
  · have now : ¬ Ow (wipe σ vs) (wipeE e1 vs) Dd := fun w => by
      obtain ⟨xs, z, _⟩ := Ow.lst r1 (ow_wipe w)
      rw [hD] at z; cases z
    exact ⟨(R.wipe r1).aside hGD now, Fx.refl.aside hD, upd_same, hGD, now, .nil, h2, rfl⟩
  rintro i m H2 ⟨rfl, G2, eb, acc, ad, rd, r2, f2, hacc, hG2, now, had, hcl, happ⟩
  obtain ⟨j1, j2⟩ := hJ i G2 H2 f2.gg r2.gh
  cases hd : ds[i]? with
  | none =>
    have hl : ds.length ≤ i := List.getElem?_eq_none_iff.mp hd
    rw [List.drop_eq_nil_of_le hl] at hcl
    cases hcl
    rw [List.append_nil] at happ
    subst happ
    obtain ⟨r3, f3⟩ := back_ok r1 hne r2 f2
    refine .inl ⟨j1 hd, q Dd acc G2 H2 r3 (f1.trans f3) hacc had hG2 hD0 fun w => ?_⟩
    rcases f3.mm Dd w with z | z
    · obtain ⟨xs, y, _⟩ := Ow.lst r1 z
      rw [hD] at y; cases y
    · obtain ⟨k, s, w1, w2, w3⟩ := w
      by_cases hk : k ∈ vs
      · rcases backE_in hk w1 with y | ⟨d, y, _⟩
        · rw [y] at w2; cases w2
        · rw [y] at w2; cases w2
      · rw [backE_out hk] at w1
        exact now ⟨k, s, w1, w2, by rw [wipe_out hk]; exact w3⟩
  | some d =>
    have hlt : i < ds.length := (List.getElem?_eq_some_iff.mp hd).1
    have hdi : ds.drop i = d :: ds.drop (i + 1) := by
      rw [List.drop_eq_getElem_cons hlt]
      rw [List.getElem?_eq_getElem hlt] at hd
      rw [Option.some.inj hd]
    rw [hdi] at hcl
    obtain ⟨e3, h3, hcl⟩ := Option.bind_eq_some_iff.mp hcl
    obtain ⟨⟨b, e4⟩, h4, hcl⟩ := Option.bind_eq_some_iff.mp hcl
    obtain ⟨jg, jy⟩ := j2 d hd
    refine .inr ⟨jg, fun H' => ∃ G2 eb acc ad rd, R K G2 H' (wipe σ vs) eb ∧ Fx (wipe σ vs) (wipeE e1 vs) G1 H1 (wipe σ vs) eb G2 H' ∧ H' Dd = some (.lst acc) ∧ G2 Dd = none ∧ ¬ Ow (wipe σ vs) eb Dd ∧ DpAll K G2 acc ad ∧ compL g t me vs (ds.drop (i + 1)) eb = some (rd, e2) ∧ ad ++ rd = rs, fun H' w => ⟨ds.length - (i + 1), by omega, rfl, w⟩, fun v H3 hy => ?_⟩
    obtain ⟨G3, g3, dv⟩ := jy v H3 hy
    have r3 := r2.gx g3
    have f3 : Fx (wipe σ vs) eb G2 H2 (wipe σ vs) eb G3 H3 := g3.fx
    refine ⟨G3, eb, d, e3, r3, dv, h3, fun σ4 w4 r4 f4 => ⟨w4.trans (wipe_wipe σ vs), G3, e3, b, e4, r4, h4, fun G5 H5 r5 f5 => ?_⟩⟩
    have fB := (f3.trans f4).trans f5
    have hD2 : H2 Dd ≠ none := ne_none_of hacc
    have accB : H5 Dd = some (.lst acc) := fB.hh Dd _ hacc now
    have gB : G5 Dd = none := fB.fr Dd hD2 now hG2
    have nowB : ¬ Ow σ4 e4 Dd := fB.nm hD2 now
    have w4' : wipe σ4 vs = wipe σ vs := w4.trans (wipe_wipe σ vs)
    -- the block's names are forgotten again
    have shut : ∀ {G6 H6 : Hp} {e6 : En}, R K G6 H6 σ4 e6 → Fx (wipe σ vs) eb G2 H2 σ4 e6 G6 H6 → R K G6 H6 (wipe σ vs) (wipeE e6 vs) ∧ Fx (wipe σ vs) (wipeE e1 vs) G1 H1 (wipe σ vs) (wipeE e6 vs) G6 H6 := fun {G6 H6 e6} r6 f6 => by
      have rw6 := R.wipe (vs := vs) r6
      rw [w4'] at rw6
      refine ⟨rw6, f2.trans ⟨f6.gg, f6.hh, f6.fr, fun a z => ?_, f6.nn, fun k es z => ?_⟩⟩
      · rw [← w4'] at z
        exact f6.mm a (ow_wipe z)
      · obtain ⟨⟨es', y1⟩, y2⟩ := f6.ke k es z
        by_cases hk : k ∈ vs
        · exfalso
          obtain ⟨p0, xs0, z1, _⟩ := r2.at_ k _ z
          exact (wipe_some z1).2 hk
        · exact ⟨⟨es', by rw [wipeE_out hk]; exact y1⟩, rfl⟩
    cases b with
    | true =>
      obtain ⟨⟨y, e6⟩, h6, hcl⟩ := Option.bind_eq_some_iff.mp hcl
      obtain ⟨⟨rd', e7⟩, h7, hcl⟩ := Option.map_eq_some_iff.mp hcl
      cases hcl
      refine ⟨G5, e4, y, e6, r5, h6, fun yv G6 H6 r6 f6 d6 => ?_⟩
      have fC := fB.trans f6
      have accC : H6 Dd = some (.lst acc) := fC.hh Dd _ hacc now
      have gC : G6 Dd = none := fC.fr Dd hD2 now hG2
      have nowC : ¬ Ow σ4 e6 Dd := fC.nm hD2 now
      obtain ⟨r7, f7⟩ := shut r6 fC
      have nowD : ¬ Ow (wipe σ vs) (wipeE e6 vs) Dd := fun z => by
        rw [← w4'] at z
        exact nowC (ow_wipe z)
      have al : acc.length < sizeLine := by
        rw [DpAll.length had]
        have : (ad ++ y :: rd').length ≤ sizeLine := by rw [happ]; exact hlen
        rw [List.length_append, List.length_cons] at this
        omega
      refine ⟨acc, accC, al, G6, wipeE e6 vs, acc ++ [yv], ad ++ [y], rd', r7.aside gC nowD, f7.aside hD, upd_same, gC, nowD, DpAll.app (dpAll_mono fC.gg _ _ had) (.cons d6 .nil), h7, ?_⟩
      rw [List.append_assoc]
      exact happ
    | false =>
      obtain ⟨r7, f7⟩ := shut r5 fB
      have nowD : ¬ Ow (wipe σ vs) (wipeE e4 vs) Dd := fun z => by
        rw [← w4'] at z
        exact nowB (ow_wipe z)
      exact ⟨G5, wipeE e4 vs, acc, ad, rd, r7, f7, accB, gB, nowD, dpAll_mono fB.gg _ _ had, hcl, happ⟩
theorem df_lc {elt iter : Expr} {ifs : List Expr} {scope : Scope} {own : List (Str × Nat)} {mi : SF} {g : D → En → Option En} {t : ST} {me : SE} (hc : X.calm = true) (hN : X.N.Nodup) (hi : DI X tg iter mi) (ok : BlkOk X.N X.env.scope scope own)
    (hg : ∀ (s : Shared) (H : Hp) (C : Addr) (cl : List (Str × Addr)) (fp : List Addr), DGc (X.blk s H scope (compEnvC scope cl C X.env) fp) tg (own.map (·.2)) g)
    (ht : ∀ (s : Shared) (H : Hp) (C : Addr) (cl : List (Str × Addr)) (fp : List Addr), DTs (X.blk s H scope (compEnvC scope cl C X.env) fp) ifs t)
    (he : ∀ (s : Shared) (H : Hp) (C : Addr) (cl : List (Str × Addr)) (fp : List Addr), DE (X.blk s H scope (compEnvC scope cl C X.env) fp) elt me) (hs : ∀ v, foldedSetIterable iter X.env v = pure v := by intro _; rfl) :
    DF X (.ListComp elt [⟨tg, iter, ifs, 0⟩] scope pos) (fComp mi g t me (own.map (·.2))) :=
  weakE (pe_lc (g := tGc X.K (own.map fun q : Str × Nat => q.2) g) (tt := tT X.K t) (te := tE X.K me) hc hN hi ok hg ht he hs) fun σ H Q h => lc_ok h
/-- name = [..] on one line -/
theorem ds_setLc (i : Nat) {nm : Str} {py spos : Pos} {elt iter : Expr} {ifs : List Expr} {scope : Scope} {own : List (Str × Nat)} {mi : SF} {g : D → En → Option En} {t : ST} {me : SE} (hc : X.calm = true) (hN : X.N.Nodup) (hy : X.N[i]? = some nm) (hyl : X.env.scope.names.lookup nm = some .local)
    (hsw : swapsWith (.ListComp elt [⟨tg, iter, ifs, 0⟩] scope pos) (some (.Name nm py)) spos.line X.env = pure true) (hi : DI X tg iter mi) (ok : BlkOk X.N X.env.scope scope own)
    (hg : ∀ (s : Shared) (H : Hp) (C : Addr) (cl : List (Str × Addr)) (fp : List Addr), DGc (X.blk s H scope (compEnvC scope cl C X.env) fp) tg (own.map (·.2)) g)
    (ht : ∀ (s : Shared) (H : Hp) (C : Addr) (cl : List (Str × Addr)) (fp : List Addr), DTs (X.blk s H scope (compEnvC scope cl C X.env) fp) ifs t)
    (he : ∀ (s : Shared) (H : Hp) (C : Addr) (cl : List (Str × Addr)) (fp : List Addr), DE (X.blk s H scope (compEnvC scope cl C X.env) fp) elt me) (hs : ∀ v, foldedSetIterable iter X.env v = pure v := by intro _; rfl) :
    DS X (.Assign [.Name nm py] (.ListComp elt [⟨tg, iter, ifs, 0⟩] scope pos) spos) (sSet i (eOf (fComp mi g t me (own.map (·.2))))) :=
  weakS (ps_setLc (g := tGc X.K (own.map fun q : Str × Nat => q.2) g) (tt := tT X.K t) (te := tE X.K me) hc hN hy hyl hsw hi ok hg ht he hs) fun Dn σ H ⟨G, e, o, r, hm, q⟩ => by
    obtain ⟨⟨a, e1⟩, h1, hm⟩ := Option.bind_eq_some_iff.mp hm
    obtain ⟨e2, h2, hm⟩ := Option.map_eq_some_iff.mp hm
    cases hm
    refine lc_ok (of_ok ⟨G, e, a, e1, r, h1, fun v G' H' r1 f1 d1 => ?_⟩)
    obtain ⟨r2, f2⟩ := put_v r1 d1 h2
    exact q _ G' H' r2 (f1.trans f2)
theorem ds_ownLc (i : Nat) {nm : Str} {py spos : Pos} {elt iter : Expr} {ifs : List Expr} {scope : Scope} {own : List (Str × Nat)} {mi : SF} {g : D → En → Option En} {t : ST} {me : SE} (hc : X.calm = true) (hN : X.N.Nodup) (hy : X.N[i]? = some nm) (hyl : X.env.scope.names.lookup nm = some .local)
    (hsw : swapsWith (.ListComp elt [⟨tg, iter, ifs, 0⟩] scope pos) (some (.Name nm py)) spos.line X.env = pure true) (hi : DI X tg iter mi) (ok : BlkOk X.N X.env.scope scope own)
    (hg : ∀ (s : Shared) (H : Hp) (C : Addr) (cl : List (Str × Addr)) (fp : List Addr), DGc (X.blk s H scope (compEnvC scope cl C X.env) fp) tg (own.map (·.2)) g)
    (ht : ∀ (s : Shared) (H : Hp) (C : Addr) (cl : List (Str × Addr)) (fp : List Addr), DTs (X.blk s H scope (compEnvC scope cl C X.env) fp) ifs t)
    (he : ∀ (s : Shared) (H : Hp) (C : Addr) (cl : List (Str × Addr)) (fp : List Addr), DE (X.blk s H scope (compEnvC scope cl C X.env) fp) elt me) (hs : ∀ v, foldedSetIterable iter X.env v = pure v := by intro _; rfl) :
    DS X (.Assign [.Name nm py] (.ListComp elt [⟨tg, iter, ifs, 0⟩] scope pos) spos) (sOwn i (fComp mi g t me (own.map (·.2)))) :=
  weakS (ps_setLc (g := tGc X.K (own.map fun q : Str × Nat => q.2) g) (tt := tT X.K t) (te := tE X.K me) hc hN hy hyl hsw hi ok hg ht he hs) fun Dn σ H ⟨G, e, o, r, hm, q⟩ => by
    obtain ⟨⟨a, e1⟩, h1, hm⟩ := Option.bind_eq_some_iff.mp hm
    obtain ⟨e2, h2, hm⟩ := Option.map_eq_some_iff.mp hm
    cases hm
    refine lc_ok ⟨G, e, a, e1, r, h1, fun pp xs G' H' r1 f1 hp hd hg h0 ho => ?_⟩
    obtain ⟨r2, f2⟩ := put_o r1 hp hd hg ho h2 G H σ e f1 h0
    exact q _ G' H' r2 f2
end
end PL

set_option maxHeartbeats 4000000
/-! The pure layer, part g: defs, their contracts, calls, the law's end. -/
namespace PL
open PySem PySem.Spec PyProof.Rows L2

/-! ### contracts -/
def spD (K : PySem.W.Frag) (n : Nat) (f : List D → Option D) : Sp := fun vs H Q _ => vs.length = n ∧ rDn K f vs H Q
def spF (K : PySem.W.Frag) (n : Nat) (f : List D → Option (List D)) : Sp := fun vs H Q _ => vs.length = n ∧ rFn K f vs H Q
/-- the first argument is a list that is changed -/
def spH (K : PySem.W.Frag) (n : Nat) (f : List D → List D → Option (D × List D)) : Sp := fun vs H Q _ => vs.length = n ∧ ∃ G p xs hs vs' ds c hs', vs = .ref p :: vs' ∧ Same G H ∧ H p = some (.lst xs) ∧ G p = none ∧ DpAll K G xs hs ∧ DpAll K G vs' ds ∧ f hs ds = some (c, hs') ∧
  ∀ v G' H' xs', Same G G' → Same G' H' → (∀ a o, a ≠ p → H a = some o → H' a = some o) → (∀ a, H a ≠ none → G a = none → G' a = none) → H' p = some (.lst xs') → DpAll K G' xs' hs' → Dp K G' v c → Q v H'
structure FnG (P : Program) (w : World) (K : PySem.W.Frag) (mg : Str → Option Value) (base : Heap) (k : Nat) (f : Addr) (fd : FuncData) (ps : List Str) (sp : Sp) : Prop where
  len : ∀ vs H Q E, sp vs H Q E → vs.length = ps.length
  run : ∀ (A : Around) (outer : List Env) (s : Shared) (H : Hp) (args : Args) (us : List Value) (vs : List V) (Q : VK), Room k A → A.guards = some [] → Env0 P w K mg base A outer s H → BindsTo s fd args (ps.zip us) → Vals vs us → sp vs H Q E0 →
    codeAny (model P w) A (.call (.ref f) args) (CR CX0 outer P w H s Q E0) s
theorem FnG.mono {P : Program} {w : World} {K : PySem.W.Frag} {mg : Str → Option Value} {base : Heap} {j k : Nat} {f : Addr} {fd : FuncData} {ps : List Str} {sp : Sp} (F : FnG P w K mg base j f fd ps sp) (h : j ≤ k) : FnG P w K mg base k f fd ps sp :=
  ⟨F.len, fun A outer s H args us vs Q hr => F.run A outer s H args us vs Q (hr.mono h)⟩

/-! ### meanings of defs -/
def startE (N : Nat) (ds : List D) : En := ds.map Sl.val ++ List.replicate (N - ds.length) Sl.un
def startH (N : Nat) (hs ds : List D) : En := Sl.ext hs :: startE (N - 1) ds
def retD : Out → Option D
  | .nx _ => some .none
  | .rt d _ => some d
  | _ => none
def retH : Out → Option (D × List D)
  | .nx e => (match (e[0]? : Option Sl) with
    | some (Sl.ext hs) => some (.none, hs)
    | _ => none)
  | .rt d e => (match (e[0]? : Option Sl) with
    | some (Sl.ext hs) => some (d, hs)
    | _ => none)
  | _ => none
/-- a def of n parameters and N names -/
def mD (n N : Nat) (b : SS) : List D → Option D := fun ds => if ds.length = n then (b (startE N ds)).bind retD else none
/-- a def of n parameters and N names whose first is a list that it changes -/
def mH (n N : Nat) (b : SS) : List D → List D → Option (D × List D) := fun hs ds => if ds.length + 1 = n then (b (startH N hs ds)).bind retH else none
/-- a def that returns a new list -/
def mF (n N : Nat) (m : En → Option (List D)) : List D → Option (List D) := fun ds => if ds.length = n then m (startE N ds) else none
section
variable {K : PySem.W.Frag} {G H : Hp}
theorem at_start {N : Nat} {vs : List V} {ds : List D} (nm : List Str) (hN : nm.length = N) (s : Same G H) (h : DpAll K G vs ds) (hl : vs.length ≤ N) : R K G H (L2.start nm vs) (startE N ds) := by
  have hlen := DpAll.length h
  have nomut : ∀ {i : Nat} {s : Sl}, (startE N ds)[i]? = some s → s.mut = false := fun {i s} q => by
    unfold startE at q
    by_cases hi : i < ds.length
    · rw [List.getElem?_append_left (by simpa using hi), List.getElem?_map] at q
      cases z : ds[i]? with
      | none => rw [z] at q; cases q
      | some d => rw [z] at q; cases q; rfl
    · rw [List.getElem?_append_right (by simpa using hi), List.getElem?_replicate] at q
      split at q <;> cases q
      rfl
  refine ⟨s, ?_, fun i s q => ?_, fun i j s t a q1 q2 m1 => by rw [nomut q1] at m1; cases m1⟩
  · unfold startE L2.start
    rw [List.length_append, List.length_append, List.length_map, List.length_map, List.length_replicate, List.length_replicate, hlen, hN]
  · unfold startE at q
    by_cases hi : i < ds.length
    · rw [List.getElem?_append_left (by simpa using hi), List.getElem?_map] at q
      cases z : ds[i]? with
      | none => rw [z] at q; cases q
      | some d =>
        rw [z] at q
        cases q
        obtain ⟨v, y1, y2⟩ := DpAll.get h z
        refine ⟨v, ?_, y2⟩
        unfold L2.start
        rw [List.getElem?_append_left (by rw [List.length_map, hlen]; exact hi), List.getElem?_map, y1]
        rfl
    · rw [List.getElem?_append_right (by simpa using hi), List.getElem?_replicate] at q
      split at q <;> cases q
      exact trivial
theorem at_startH {N : Nat} {p : Addr} {xs vs : List V} {hs ds : List D} (nm : List Str) (hN : nm.length = N) (s : Same G H) (hp : H p = some (.lst xs)) (hg : G p = none) (hh : DpAll K G xs hs) (h : DpAll K G vs ds) (hl : vs.length + 1 ≤ N) : R K G H (L2.start nm (.ref p :: vs)) (startH N hs ds) := by
  obtain ⟨n0, nm', rfl⟩ : ∃ n0 nm', nm = n0 :: nm' := by
    cases nm with
    | nil => rw [← hN] at hl; exact absurd hl (by simp)
    | cons a b => exact ⟨a, b, rfl⟩
  have hN' : nm'.length = N - 1 := by rw [← hN]; simp
  have r := at_start nm' hN' s h (by omega)
  have e1 : L2.start (n0 :: nm') (.ref p :: vs) = some (.ref p) :: L2.start nm' vs := by
    unfold L2.start
    rw [List.map_cons, List.cons_append, List.length_cons, List.length_cons]
    congr 3
    omega
  rw [e1]
  have nomut : ∀ {i : Nat} {s : Sl}, (startE (N - 1) ds)[i]? = some s → s.mut = false := fun {i s} q => by
    unfold startE at q
    by_cases hi : i < ds.length
    · rw [List.getElem?_append_left (by simpa using hi), List.getElem?_map] at q
      cases z : ds[i]? with
      | none => rw [z] at q; cases q
      | some d => rw [z] at q; cases q; rfl
    · rw [List.getElem?_append_right (by simpa using hi), List.getElem?_replicate] at q
      split at q <;> cases q
      rfl
  refine ⟨s, ?_, fun i t q => ?_, fun i j t u a q1 q2 m1 m2 _ _ => ?_⟩
  · unfold startH
    rw [List.length_cons, List.length_cons, r.len]
  · cases i with
    | zero =>
      cases q
      exact ⟨p, xs, rfl, hp, hh, hg⟩
    | succ i => exact r.at_ i t q
  · cases i with
    | zero =>
      cases j with
      | zero => rfl
      | succ j => rw [nomut q2] at m2; cases m2
    | succ i => rw [nomut q1] at m1; cases m1
end

/-! ### a def keeps its contract -/
section
variable {P : Program} {w : World} {K : PySem.W.Frag} {mg : Str → Option Value} {base : Heap} {x qual : Str} {params : Arguments} {body : List Stmt} {scope : Scope} {f : Addr} {fd : FuncData}
/-- the context of a def's body -/
abbrev cxB (P : Program) (w : World) (K : PySem.W.Frag) (mg : Str → Option Value) (base : Heap) (N : List Str) (qual : Str) (scope : Scope) (f : Addr) (cdv : Value) (A : Around) (outer : List Env) (s : Shared) (H : Hp) : Cx :=
  (cxOf CX0 P w K mg base N qual scope f cdv A outer s H E0).nox
theorem fn_any {N ps : List Str} {k : Nat} {sp : Sp} (F : FunD K x qual params body scope [] [] f fd) (S : FnScope N ps scope) (len : ∀ vs H Q E, sp vs H Q E → vs.length = ps.length)
    (hB : ∀ (cdv : Value) (A : Around) (outer : List Env) (s : Shared) (H : Hp) (vs : List V) (Q : VK), Room k (A.deeper (envOfC qual scope s.heap.objs.size f cdv)) → A.guards = some [] → sp vs H Q E0 →
      ∃ t, PSs (cxB P w K mg base N qual scope f cdv A outer s H) body t ∧ t { nx := fun _ H' => Q .non H', rt := Q } (L2.start N vs) H) : FnG P w K mg base (k + 1) f fd ps sp := by
  obtain ⟨oc, od, dV, kV, doc, pm, an, cdv, ct, osl, rfl, lk, hcd, _, _⟩ := F.ex
  refine ⟨len, fun A outer s H args us vs Q hr hG e0 hb r hsp => ?_⟩
  have hlen := len _ _ _ _ hsp
  have keepB : ∀ b o, base.get? b = some o → s.heap.get? b = some o := fun b o z => (e0.bs b o z).1
  have KX : K.In s.heap := e0.mod.kin.keeps keepB
  have kinds : ∀ y ∈ ps.zip us, scope.names.lookup y.1 = some .local ∨
      (scope.names.lookup y.1 = some .cell ∧ ((cellsFrom (s.heap.objs.size + 1) scope.names []).lookup y.1).isSome = true) := by
    intro y hy
    rcases S.par y.1 (List.of_mem_zip (a := y.1) (b := y.2) hy).1 with q | q
    · exact .inl q
    · exact .inr ⟨q, PySem.W.cellsFrom_some _ _ _ (.inl q)⟩
  refine codeAny_call_function hr.depth (KX _ _ lk) rfl S.co S.gen rfl
    (PySem.W.codeRec_of KX hcd) (hb _ _ _ _ ?_)
  refine wpAny_newFunctionEnv_cells S.kind kinds fun env0 henv s1 inC => ?_
  subst henv
  refine ⟨(e0.mod.nolimit.keeps keepB).keeps inC.toInCall.keep, codeAny_func ?_⟩
  obtain ⟨t, ht, ht2⟩ := hB cdv A outer s H vs Q (hr.deeper _) hG hsp
  have I0 := inv_start (CX := CX0) (E := E0) (qual := qual) (f := f) (cd := cdv) S hr.hd e0 hlen r inC
  refine wpAny_mono (ht.nox.run [] s1 (L2.start N vs) H _ I0 ht2)
    (fun fl s' hfl => ?_) fun ex s' hex => hex
  cases fl with
  | ret u =>
    obtain ⟨v, σ', H', J, rv, q⟩ := hfl
    exact ⟨v, H', J.os, J.bare, J.base, J.hok, rv, q⟩
  | next =>
    obtain ⟨σ', H', J, q⟩ := hfl
    exact ⟨.non, H', J.os, J.bare, J.base, J.hok, rfl, q⟩
  | brk =>
    obtain ⟨_, _, _, q⟩ := hfl
    cases q
  | cont =>
    obtain ⟨_, _, _, q⟩ := hfl
    cases q
theorem fn_D {N ps : List Str} {k : Nat} {b : SS} (F : FunD K x qual params body scope [] [] f fd) (S : FnScope N ps scope)
    (hB : ∀ (cdv : Value) (A : Around) (outer : List Env) (s : Shared) (H : Hp), Room k (A.deeper (envOfC qual scope s.heap.objs.size f cdv)) → A.guards = some [] → DB (cxB P w K mg base N qual scope f cdv A outer s H) body b) : FnG P w K mg base (k + 1) f fd ps (spD K ps.length (mD ps.length N.length b)) := by
  have hpl : ps.length ≤ N.length := by
    have := congrArg List.length S.pre
    rw [List.length_take] at this
    omega
  refine fn_any F S (fun vs H Q E h => h.1) fun cdv A outer s H vs Q hr hG hsp => ⟨_, hB cdv A outer s H hr hG, ?_⟩
  obtain ⟨hl, G, ds, c, sG, hd, hm, q⟩ := hsp
  unfold mD at hm
  split at hm
  · obtain ⟨o, h1, h2⟩ := Option.bind_eq_some_iff.mp hm
    refine ⟨G, startE N.length ds, o, at_start N rfl sG hd (by omega), h1, ?_⟩
    have fin : ∀ {σ' : VSt} {e' : En} {G' H' : Hp}, R K G' H' σ' e' → Fx (L2.start N vs) (startE N.length ds) G H σ' e' G' H' → Gx G H G' H' := fun {σ' e' G' H'} r' f' => by
      have no : ∀ a, ¬ Ow (L2.start N vs) (startE N.length ds) a := fun a z => by
        obtain ⟨i, s, z1, z2, _⟩ := z
        unfold startE at z1
        by_cases hi : i < ds.length
        · rw [List.getElem?_append_left (by simpa using hi), List.getElem?_map] at z1
          cases z : ds[i]? with
          | none => rw [z] at z1; cases z1
          | some d => rw [z] at z1; cases z1; cases z2
        · rw [List.getElem?_append_right (by simpa using hi), List.getElem?_replicate] at z1
          split at z1 <;> cases z1
          cases z2
      exact ⟨f'.gg, fun a o z => f'.hh a o z (no a), r'.gh, fun a z g => f'.fr a z (no a) g⟩
    cases o with
    | nx e' =>
      cases h2
      exact fun σ' G' H' r' f' => q .non G' H' (fin r' f') .non
    | rt d e' =>
      cases h2
      exact fun v σ' G' H' r' f' d' => q v G' H' (fin r' f') d'
    | bk e' => cases h2
    | ct e' => cases h2
  · cases hm
theorem fn_H {N ps : List Str} {k : Nat} {b : SS} (F : FunD K x qual params body scope [] [] f fd) (S : FnScope N ps scope)
    (hB : ∀ (cdv : Value) (A : Around) (outer : List Env) (s : Shared) (H : Hp), Room k (A.deeper (envOfC qual scope s.heap.objs.size f cdv)) → A.guards = some [] → DB (cxB P w K mg base N qual scope f cdv A outer s H) body b) : FnG P w K mg base (k + 1) f fd ps (spH K ps.length (mH ps.length N.length b)) := by
  have hpl : ps.length ≤ N.length := by
    have := congrArg List.length S.pre
    rw [List.length_take] at this
    omega
  refine fn_any F S (fun vs H Q E h => h.1) fun cdv A outer s H vs Q hr hG hsp => ⟨_, hB cdv A outer s H hr hG, ?_⟩
  obtain ⟨hl, G, p, xs, hs, vs', ds, c, hs', rfl, sG, hp, hg, hh, hd, hm, q⟩ := hsp
  unfold mH at hm
  split at hm
  · rename_i hlen
    obtain ⟨o, h1, h2⟩ := Option.bind_eq_some_iff.mp hm
    have hl' : vs'.length + 1 ≤ N.length := by
      rw [List.length_cons] at hl
      omega
    have r0 := at_startH N rfl sG hp hg hh hd hl'
    refine ⟨G, startH N.length hs ds, o, r0, h1, ?_⟩
    have s0 : (L2.start N (.ref p :: vs'))[0]? = some (some (.ref p)) := rfl
    have no : ∀ a, a ≠ p → ¬ Ow (L2.start N (.ref p :: vs')) (startH N.length hs ds) a := fun a ne z => by
      obtain ⟨i, s, z1, z2, z3⟩ := z
      cases i with
      | zero =>
        rw [s0] at z3
        cases z3
        exact ne rfl
      | succ i =>
        have z1 : (startE (N.length - 1) ds)[i]? = some s := z1
        unfold startE at z1
        by_cases hi : i < ds.length
        · rw [List.getElem?_append_left (by simpa using hi), List.getElem?_map] at z1
          cases z : ds[i]? with
          | none => rw [z] at z1; cases z1
          | some d => rw [z] at z1; cases z1; cases z2
        · rw [List.getElem?_append_right (by simpa using hi), List.getElem?_replicate] at z1
          split at z1 <;> cases z1
          cases z2
    have fin : ∀ {σ' : VSt} {e' : En} {G' H' : Hp} {v : V} {d : D} {hs2 : List D}, R K G' H' σ' e' → Fx (L2.start N (.ref p :: vs')) (startH N.length hs ds) G H σ' e' G' H' → e'[0]? = some (.ext hs2) → Dp K G' v d → c = d → hs' = hs2 → Q v H' := fun {σ' e' G' H' v d hs2} r' f' h0 dv e1 e2 => by
      subst e1 e2
      obtain ⟨_, k2⟩ := f'.ke 0 hs rfl
      obtain ⟨p2, xs2, y1, y2, y3, y4⟩ := r'.at_ 0 _ h0
      rw [k2, s0] at y1
      cases y1
      refine q v G' H' xs2 f'.gg r'.gh (fun a o ne z => f'.hh a o z (no a ne)) (fun a z g => ?_) y2 y3 dv
      by_cases ne : a = p
      · rw [ne]; exact y4
      · exact f'.fr a z (no a ne) g
    cases o with
    | nx e' =>
      unfold retH at h2
      dsimp only at h2
      split at h2
      · rename_i hs2 h0
        cases h2
        exact fun σ' G' H' r' f' => fin r' f' h0 .non rfl rfl
      · cases h2
    | rt d e' =>
      unfold retH at h2
      dsimp only at h2
      split at h2
      · rename_i hs2 h0
        cases h2
        exact fun v σ' G' H' r' f' d' => fin r' f' h0 d' rfl rfl
      · cases h2
    | bk e' => cases h2
    | ct e' => cases h2
  · cases hm
/-- blocks that return a new list -/
def tSF (K : PySem.W.Frag) (m : En → Option (List D)) : TS := fun Dn σ H => ∃ G e ds, R K G H σ e ∧ m e = some ds ∧ ∀ σ' e' p xs G' H', R K G' H' σ' e' → Fx σ e G H σ' e' G' H' → H' p = some (.lst xs) → DpAll K G' xs ds → G' p = none → H p = none → Dn.rt (.ref p) H'
def DBF (X : Cx) (x : List Stmt) (m : En → Option (List D)) : Prop := PSs X x (tSF X.K m)
def fRet (m : SF) : En → Option (List D) := fun e => (m e).map (·.1)
def fSeq (b : SS) (m : En → Option (List D)) : En → Option (List D) := fun e => (b e).bind fun o => match o with
  | .nx e' => m e'
  | _ => none
theorem dbf_ret {X : Cx} {y : Expr} {rpos : Pos} {m : SF} (h : DF X y m) : DBF X [.Return (some y) rpos] (fRet m) := weakB (pss_one (ps_ret h)) fun Dn σ H ⟨G, e, ds, r, hm, q⟩ => by
  obtain ⟨⟨es, e1⟩, h1, hm⟩ := Option.map_eq_some_iff.mp hm
  cases hm
  exact ⟨G, e, _, e1, r, h1, fun p xs G' H' r1 f1 hp hd hg h0 _ => q σ e1 p xs G' H' r1 f1 hp hd hg h0⟩
theorem dbf_cons {X : Cx} {st : Stmt} {sts : List Stmt} {b : SS} {m : En → Option (List D)} (h1 : DS X st b) (h2 : DBF X sts m) : DBF X (st :: sts) (fSeq b m) := weakB (pss_cons h1 h2) fun Dn σ H ⟨G, e, ds, r, hm, q⟩ => by
  obtain ⟨o, h1, hm⟩ := Option.bind_eq_some_iff.mp hm
  refine ⟨G, e, o, r, h1, ?_⟩
  cases o with
  | nx e1 =>
    exact fun σ1 G1 H1 r1 f1 => ⟨G1, e1, ds, r1, hm, fun σ' e' p xs G' H' r' f' hp hd hg h0 => q σ' e' p xs G' H' r' (f1.trans f') hp hd hg (by
      cases z : H p with
      | none => rfl
      | some o => exact absurd h0 (f1.nn p (ne_none_of z)))⟩
  | rt _ _ => cases hm
  | bk _ => cases hm
  | ct _ => cases hm
theorem fn_F {N ps : List Str} {k : Nat} {m : En → Option (List D)} (F : FunD K x qual params body scope [] [] f fd) (S : FnScope N ps scope)
    (hB : ∀ (cdv : Value) (A : Around) (outer : List Env) (s : Shared) (H : Hp), Room k (A.deeper (envOfC qual scope s.heap.objs.size f cdv)) → A.guards = some [] → DBF (cxB P w K mg base N qual scope f cdv A outer s H) body m) : FnG P w K mg base (k + 1) f fd ps (spF K ps.length (mF ps.length N.length m)) := by
  have hpl : ps.length ≤ N.length := by
    have := congrArg List.length S.pre
    rw [List.length_take] at this
    omega
  refine fn_any F S (fun vs H Q E h => h.1) fun cdv A outer s H vs Q hr hG hsp => ⟨_, hB cdv A outer s H hr hG, ?_⟩
  obtain ⟨hl, G, ds, c, sG, hd, hm, q⟩ := hsp
  unfold mF at hm
  split at hm
  · refine ⟨G, startE N.length ds, c, at_start N rfl sG hd (by omega), hm, fun σ' e' p xs G' H' r' f' hp hd hg h0 => ?_⟩
    have no : ∀ a, ¬ Ow (L2.start N vs) (startE N.length ds) a := fun a z => by
      obtain ⟨i, s, z1, z2, _⟩ := z
      unfold startE at z1
      by_cases hi : i < ds.length
      · rw [List.getElem?_append_left (by simpa using hi), List.getElem?_map] at z1
        cases z : ds[i]? with
        | none => rw [z] at z1; cases z1
        | some d => rw [z] at z1; cases z1; cases z2
      · rw [List.getElem?_append_right (by simpa using hi), List.getElem?_replicate] at z1
        split at z1 <;> cases z1
        cases z2
    exact q p xs G' H' ⟨f'.gg, fun a o z => f'.hh a o z (no a), r'.gh, fun a z g => f'.fr a z (no a) g⟩ h0 hp hg hd
  · cases hm
end
/-! ### calls -/
section
variable {X : Cx} {k : Nat} {f : Addr} {fd : FuncData} {ps : List Str} {sp : Sp} {nm : Str} {p pos p2 : Pos} {x y : Expr} {es : List Expr}
theorem run_G {pins : List (Addr × Obj)} {σ : VSt} {H : Hp} {s : Shared} {Q : VK} {us : List Value} {vs : List V} (F : FnG X.prog X.w X.K X.mg X.base k f fd ps sp) (hr : Room k X.A) (hG : X.A.guards = some []) (hb : Binds X.K fd ps [])
    (I : L2.Inv X pins σ H s) (r : Vals vs us) (h : sp vs H Q E0) : wpAny (model X.prog X.w) X.A (call (.ref f) us) (EP X pins σ Q) X.xe s := by
  have hl : (us ++ []).length = ps.length := by
    rw [List.append_nil, ← r.length]
    exact F.len _ _ _ _ h
  have hbind := hb s us I.kIn hl
  rw [List.append_nil] at hbind
  have hcode := F.run X.A X.stack s H ⟨us, []⟩ us vs Q hr hG I.env0 hbind r h
  refine wpAny_call (codeAny_mono hcode fun res s' hres => ?_)
  cases res with
  | error ex => cases hres
  | ok fl =>
    cases fl with
    | ret u => exact I.after hres
    | next => cases hres
    | brk => cases hres
    | cont => cases hres
theorem pe_G {t : TA} (F : FnG X.prog X.w X.K X.mg X.base k f fd ps sp) (hr : Room k X.A) (hG : X.A.guards = some []) (hg : Gl X nm) (hm : X.mg nm = some (.ref f)) (hk : PySem.W.keepIn X.K (.ref f) = true) (hb : Binds X.K fd ps [])
    (ha : PA X (x :: es) t) (hdb : (nm == ("__debug__" : Str)) = false) (he : starEach (x :: es) X.env = (false, eval x X.env) :: starEach es X.env) (hpl : (backTo pos (starEach es X.env)).any (·.1) = false) :
    PE X (.Call (.Name nm p) (x :: es) [] pos) (fun σ H Q => t σ H fun vs H1 => sp vs H1 Q E0) := by
  constructor
  intro pins s σ H Q I ht
  refine wpAny_Call_Name_kw (ld_glob I hg hm ?_ hdb)
  refine PySem.W.callWith_K (h₀ := X.base) I.ok.mod.kin hk ?_ he hpl
  refine thn (ha.run pos pins s σ H _ I ht) ?_
  rintro us s1 ⟨vs, H1, I1, r, q⟩
  exact ⟨I1.kIn, run_G F hr hG hb I1 r q⟩
theorem de_call {n : Nat} {m : List D → Option D} {ma : SA} (F : FnG X.prog X.w X.K X.mg X.base k f fd ps (spD X.K n m)) (hr : Room k X.A) (hG : X.A.guards = some []) (hg : Gl X nm) (hm : X.mg nm = some (.ref f)) (hk : PySem.W.keepIn X.K (.ref f) = true) (hb : Binds X.K fd ps [])
    (ha : DA X (x :: es) ma) (hlen : ∀ e ds e', ma e = some (ds, e') → ds.length = n) (hdb : (nm == ("__debug__" : Str)) = false := by decide) (he : starEach (x :: es) X.env = (false, eval x X.env) :: starEach es X.env := by rfl) (hpl : (backTo pos (starEach es X.env)).any (·.1) = false := by rfl) :
    DE X (.Call (.Name nm p) (x :: es) [] pos) (eCall m ma) :=
  weakE (pe_G F hr hG hg hm hk hb ha hdb he hpl) fun σ H Q ⟨G, e, d, e', r, hm, q⟩ => by
    obtain ⟨⟨ds, e1⟩, h1, hm⟩ := Option.bind_eq_some_iff.mp hm
    obtain ⟨c, h3, hm⟩ := Option.map_eq_some_iff.mp hm
    cases hm
    exact ⟨G, e, ds, e1, r, h1, fun vs G1 H1 r1 f1 d1 => ⟨by rw [DpAll.length d1]; exact hlen _ _ _ h1, G1, ds, _, r1.gh, d1, h3, fun z G' H' g dz => q z G' H' (r1.gx g) (f1.trans g.fx) dz⟩⟩
theorem df_call {n : Nat} {m : List D → Option (List D)} {ma : SA} (F : FnG X.prog X.w X.K X.mg X.base k f fd ps (spF X.K n m)) (hr : Room k X.A) (hG : X.A.guards = some []) (hg : Gl X nm) (hm : X.mg nm = some (.ref f)) (hk : PySem.W.keepIn X.K (.ref f) = true) (hb : Binds X.K fd ps [])
    (ha : DA X (x :: es) ma) (hlen : ∀ e ds e', ma e = some (ds, e') → ds.length = n) (hdb : (nm == ("__debug__" : Str)) = false := by decide) (he : starEach (x :: es) X.env = (false, eval x X.env) :: starEach es X.env := by rfl) (hpl : (backTo pos (starEach es X.env)).any (·.1) = false := by rfl) :
    DF X (.Call (.Name nm p) (x :: es) [] pos) (fCall m ma) :=
  weakE (pe_G F hr hG hg hm hk hb ha hdb he hpl) fun σ H Q h => by
    obtain ⟨G, e, ds, e1, r, h1, q⟩ := fresh_call h
    exact ⟨G, e, ds, e1, r, h1, fun vs G1 H1 r1 f1 d1 => ⟨by rw [DpAll.length d1]; exact hlen _ _ _ h1, q vs G1 H1 r1 f1 d1⟩⟩
/-- f(name, ..), the name's list being changed by f -/
def eCallH (i : Nat) (m : List D → List D → Option (D × List D)) (ma : SA) : SE := fun e => (mutL e i).bind fun _ => (ma e).bind fun p => (mutL p.2 i).bind fun hs => (m hs p.1).bind fun r => (putL p.2 i r.2).map fun e' => (r.1, e')
theorem de_callH (i : Nat) {ni : Str} {n : Nat} {m : List D → List D → Option (D × List D)} {ma : SA} (F : FnG X.prog X.w X.K X.mg X.base k f fd ps (spH X.K n m)) (hr : Room k X.A) (hG : X.A.guards = some []) (hg : Gl X nm) (hm : X.mg nm = some (.ref f)) (hk : PySem.W.keepIn X.K (.ref f) = true) (hb : Binds X.K fd ps [])
    (hN : X.N[i]? = some ni) (hv : Vis X.env.scope ni) (hd : (ni == ("__debug__" : Str)) = false) (hcd : (ni == ("__classdict__" : Str)) = false)
    (ha : DA X es ma) (hlen : ∀ e ds e', ma e = some (ds, e') → ds.length + 1 = n) (hdb : (nm == ("__debug__" : Str)) = false := by decide) (he : starEach (.Name ni p2 :: es) X.env = (false, eval (.Name ni p2) X.env) :: starEach es X.env := by rfl) (hpl : (backTo pos (starEach es X.env)).any (·.1) = false := by rfl) :
    DE X (.Call (.Name nm p) (.Name ni p2 :: es) [] pos) (eCallH i m ma) :=
  weakE (pe_G F hr hG hg hm hk hb (pa_cons (pe_var hN hv hd hcd) ha he) hdb he hpl) fun σ H Q ⟨G, e, d, e', r, hm, q⟩ => by
    obtain ⟨hs0, h0, hm⟩ := Option.bind_eq_some_iff.mp hm
    obtain ⟨⟨ds, e1⟩, h1, hm⟩ := Option.bind_eq_some_iff.mp hm
    obtain ⟨hs, h2, hm⟩ := Option.bind_eq_some_iff.mp hm
    obtain ⟨⟨c, hs'⟩, h3, hm⟩ := Option.bind_eq_some_iff.mp hm
    obtain ⟨e2, h4, hm⟩ := Option.map_eq_some_iff.mp hm
    cases hm
    obtain ⟨s0, pp, xs0, _, _, _, z1, _, _, _⟩ := mut_at r h0
    refine ⟨.ref pp, z1, G, e, ds, e1, r, h1, fun vs G1 H1 r1 f1 d1 => ?_⟩
    obtain ⟨s1, p1, xs, w1, w2, w3, y1, y2, y3, y4⟩ := mut_at r1 h2
    rw [z1] at y1
    cases y1
    refine ⟨by rw [List.length_cons, DpAll.length d1]; exact hlen _ _ _ h1, G1, pp, xs, hs, vs, ds, _, hs', rfl, r1.gh, y2, y4, y3, d1, h3, fun v G2 H2 xs2 sg gh hh fr hp hd2 dv => ?_⟩
    -- the state behind the call, written at the name
    have hp1 : H1 pp ≠ none := ne_none_of y2
    have g2 : G2 pp = none := fr pp hp1 y4
    have iOw : Ow σ e1 pp := ⟨i, s1, w1, w2, z1⟩
    have fput : ∃ s2, e' = e1.set i s2 ∧ ((∃ ds, s1 = .own ds ∧ s2 = .own hs') ∨ ∃ ds, s1 = .ext ds ∧ s2 = .ext hs') := by
      unfold putL at h4
      rw [w1] at h4
      rcases w3 with w3 | w3 <;> subst w3 <;> cases h4
      · exact ⟨_, rfl, .inl ⟨_, rfl, rfl⟩⟩
      · exact ⟨_, rfl, .inr ⟨_, rfl, rfl⟩⟩
    obtain ⟨s2, rfl, hs2⟩ := fput
    have hl : i < e1.length := (List.getElem?_eq_some_iff.mp w1).1
    have m2 : s2.mut = true := by rcases hs2 with ⟨_, _, rfl⟩ | ⟨_, _, rfl⟩ <;> rfl
    have sub : ∀ {j : Nat} {t : Sl}, (e1.set i s2)[j]? = some t → t.mut = true → ∃ t0, e1[j]? = some t0 ∧ t0.mut = true := fun {j t} q mt => by
      by_cases hj : i = j
      · subst hj; exact ⟨s1, w1, w2⟩
      · rw [List.getElem?_set_ne hj] at q; exact ⟨t, q, mt⟩
    have r2 : R X.K G2 H2 σ (e1.set i s2) := by
      refine ⟨gh, by simpa using r1.len, fun j t q => ?_, fun j l t u a q1 q2 mm1 mm2 t1 t2 => ?_⟩
      · by_cases hj : i = j
        · subst hj
          rw [List.getElem?_set_self hl] at q
          cases q
          rcases hs2 with ⟨_, _, rfl⟩ | ⟨_, _, rfl⟩
          · exact ⟨pp, xs2, z1, hp, hd2, g2⟩
          · exact ⟨pp, xs2, z1, hp, hd2, g2⟩
        · rw [List.getElem?_set_ne hj] at q
          have z := r1.at_ j t q
          have nep : ∀ {b : Addr}, t.mut = true → σ[j]? = some (some (.ref b)) → b ≠ pp := fun {b} mt yb y => by
            subst y
            exact hj (r1.inj i j s1 t b w1 q w2 mt z1 yb)
          cases t with
          | un => exact z
          | val d => obtain ⟨u, t1, t2⟩ := z; exact ⟨u, t1, dp_mono sg _ _ t2⟩
          | own es => obtain ⟨b, ys, t1, t2, t3, t4⟩ := z; exact ⟨b, ys, t1, hh _ _ (nep rfl t1) t2, dpAll_mono sg _ _ t3, fr b (ne_none_of t2) t4⟩
          | ext es => obtain ⟨b, ys, t1, t2, t3, t4⟩ := z; exact ⟨b, ys, t1, hh _ _ (nep rfl t1) t2, dpAll_mono sg _ _ t3, fr b (ne_none_of t2) t4⟩
      · obtain ⟨t0, v1, v2⟩ := sub q1 mm1
        obtain ⟨u0, v3, v4⟩ := sub q2 mm2
        exact r1.inj j l t0 u0 a v1 v3 v2 v4 t1 t2
    refine q v G2 H2 r2 (f1.trans ⟨sg, fun a o z n => hh a o (fun t => n (by rw [t]; exact iOw)) z, fun a z _ g => fr a z g, fun a z => .inl ?_, fun a z => ?_, fun j es' z => ?_⟩) dv
    · obtain ⟨j, t, q, mt, y⟩ := z
      obtain ⟨t0, v1, v2⟩ := sub q mt
      exact ⟨j, t0, v1, v2, y⟩
    · by_cases t : a = pp
      · rw [t]; exact ne_none_of hp
      · cases w : H1 a with
        | none => exact absurd w z
        | some o => exact ne_none_of (hh a o t w)
    · by_cases hj : i = j
      · subst hj
        rw [w1] at z
        cases z
        rcases hs2 with ⟨_, t, _⟩ | ⟨_, _, rfl⟩
        · cases t
        · exact ⟨⟨hs', List.getElem?_set_self hl⟩, rfl⟩
      · exact ⟨⟨es', by rw [List.getElem?_set_ne hj]; exact z⟩, rfl⟩
end
end PL

set_option maxHeartbeats 4000000
/-! The pure layer, part h: the law's end. -/
namespace PL
open PySem PySem.Spec PyProof.Rows L2
section
variable {P : Program} {w : World} {K : PySem.W.Frag} {mg mb : Str → Option Value} {k : Nat} {fa a : Addr} {fd : FuncData} {x : Str} {s0 : Shared} {vs : List Value} {ns : List Int} {m : List D → Option D}
/-- the law's call from an abstract heap that holds the script at most -/
theorem end_from (H : Hp) (KX : K.In s0.heap) (hns : s0.heap.Ns mainGlobals mg) (hb : s0.heap.Ns builtinsNs mb)
    (hbb : ∀ y : Str, y ≠ "__name__" → mb y = bootBuiltins y) (hlim : s0.heap.NoLimit) (hg : s0.gens = #[])
    (ha : s0.heap.get? a = some { cls := .type "list", data := .seq vs.toArray }) (hr : Room k callerA)
    (F : ∀ base : Heap, K.In base → base.Ns mainGlobals mg → FnG P w K mg base k fa fd [x] (spD K 1 m))
    (hbind : ∀ (s : Shared) (u : Value), BindsTo s fd ⟨[u], []⟩ [(x, u)])
    (hm : m [.list (ns.map PyData.int)] = some (.bool true))
    (hO : Only H) (hS : SqL K H a (ns.map V.int)) (hok : HOk P w H s0.heap) (only : ∀ b, H b ≠ none → b = a) (hK : H a ≠ none → K.lookup a = none) :
    codeAny (model P w) callerA (.call (.ref fa) ⟨[.ref a], []⟩)
      (fun r s' => r = .ok (.ret (.bool true)) ∧ OldK s0.heap s'.heap ∧ s'.os = s0.os ∧ AllBare s'.gens) s0 := by
  have atA : ∀ {b : Addr}, H b ≠ none → s0.heap.get? b = some { cls := .type "list", data := .seq vs.toArray } := fun {b} z => by
    rw [only b z]; exact ha
  -- a namespace is not the script
  have free : ∀ {b : Addr} {o : Obj} {es : Array DictEntry} {n : Nat}, s0.heap.get? b = some o → o.data = .dict es n → H b = none := by
    intro b o es n e d
    cases q : H b with
    | none => rfl
    | some u =>
      have e2 := atA (b := b) (by rw [q]; exact fun z => nomatch z)
      rw [e] at e2
      rw [Option.some.inj e2] at d
      exact nomatch d
  have ns_hid : ∀ {b : Addr} {f : Str → Option Value}, s0.heap.Ns b f → (hidT s0.heap H).Ns b f := by
    rintro b f ⟨o, es, n, e, d, rest⟩
    exact ⟨o, es, n, hidT_get e (free e d), d, rest⟩
  have kin : K.In (hidT s0.heap H) := fun b o e => by
    refine hidT_get (KX b o e) ?_
    cases q : H b with
    | none => rfl
    | some u =>
      have nb : H b ≠ none := by rw [q]; exact fun z => nomatch z
      have eb := only b nb
      subst eb
      rw [hK nb] at e
      cases e
  have lim : (hidT s0.heap H).NoLimit := by
    obtain ⟨mc, h1, h2⟩ := hlim
    exact ⟨mc, ns_hid h1, h2⟩
  have e0 : Env0 P w K mg (hidT s0.heap H) callerA [] s0 H := {
    frames := rfl
    mod := ⟨kin, ns_hid hns, ⟨mb, ns_hid hb, hbb⟩, lim⟩
    bs := fun b o e => of_hidT e
    bsz := Nat.le_of_eq (hidT_size _ _)
    funs := trivial
    frf := fun b hb => by cases hb
    hok := hok
    bare := .of_eq hg }
  have dargs : DpAll K H (ns.map V.int) (ns.map PyData.int) := by
    clear hm hS
    induction ns with
    | nil => exact .nil
    | cons n r ih => exact .cons (.int n) ih
  have sp : spD K 1 m [.ref a] H (fun v _ => v = .bl true) E0 :=
    ⟨rfl, H, [.list (ns.map PyData.int)], .bool true, .refl _, .cons (.lst hS dargs) .nil, hm, fun v G' H' _ dv => by cases dv; rfl⟩
  have run := (F _ kin (ns_hid hns)).run callerA [] s0 H ⟨[.ref a], []⟩ [.ref a] [.ref a] _ hr rfl e0 (hbind s0 (.ref a)) (.cons rfl .nil) sp
  refine codeAny_mono run fun res s' hres => ?_
  cases res with
  | error ex => cases hres
  | ok fl =>
    cases fl with
    | next => cases hres
    | brk => cases hres
    | cont => cases hres
    | ret u =>
      obtain ⟨v, H', os, bare, un, hok', rv, hv⟩ := hres
      have hv : v = V.bl true := hv
      subst hv
      have rv : u = Value.bool true := rv
      subst rv
      refine ⟨rfl, OldK.of_keep fun b o e => ?_, os, bare⟩
      cases q : H b with
      | none => exact un.keep b o e q (by intro z; cases z) (by intro z; cases z)
      | some u =>
        rcases hO b with z | ⟨ob, xs, z⟩
        · rw [q] at z; cases z
        · obtain ⟨old, _⟩ := hok b _ z
          obtain ⟨new, _⟩ := hok' b _ (un.frzs b ob _ z)
          rw [e] at old
          rw [Option.some.inj old]
          exact new
theorem end_call (KX : K.In s0.heap) (hns : s0.heap.Ns mainGlobals mg) (hb : s0.heap.Ns builtinsNs mb)
    (hbb : ∀ y : Str, y ≠ "__name__" → mb y = bootBuiltins y) (hlim : s0.heap.NoLimit) (hg : s0.gens = #[])
    (ha : s0.heap.get? a = some { cls := .type "list", data := .seq vs.toArray }) (hi : IntsAre vs ns) (hl : ns.length ≤ sizeLine) (hr : Room k callerA)
    (F : ∀ base : Heap, K.In base → base.Ns mainGlobals mg → FnG P w K mg base k fa fd [x] (spD K 1 m))
    (hbind : ∀ (s : Shared) (u : Value), BindsTo s fd ⟨[u], []⟩ [(x, u)])
    (hm : m [.list (ns.map PyData.int)] = some (.bool true)) :
    codeAny (model P w) callerA (.call (.ref fa) ⟨[.ref a], []⟩)
      (fun r s' => r = .ok (.ret (.bool true)) ∧ OldK s0.heap s'.heap ∧ s'.os = s0.os ∧ AllBare s'.gens) s0 := by
  have rv := vals_ints hi
  cases hk : K.lookup a with
  | some o =>
    have e := KX a o hk
    rw [ha] at e
    cases e
    have hS : SqL K (fun _ => none) a (ns.map V.int) :=
      .inr ⟨_, vs.toArray, _, hk, rfl, rfl, rfl, by rw [List.size_toArray, hi.length]; exact hl, by simpa using rv⟩
    exact end_from (fun _ => none) KX hns hb hbb hlim hg ha hr F hbind hm (fun _ => .inl rfl) hS
      (fun b u z => by cases (show (none : Option HO) = some u from z)) (fun b z => absurd rfl z) fun z => absurd rfl z
  | none =>
    let ob : Obj := { cls := .type "list", data := .seq vs.toArray }
    let H : Hp := fun b => if b = a then some (.frz ob (.lst (ns.map V.int))) else none
    have yes : H a = some (.frz ob (.lst (ns.map V.int))) := if_pos rfl
    have no : ∀ {b : Addr}, b ≠ a → H b = none := fun {b} z => if_neg z
    refine end_from H KX hns hb hbb hlim hg ha hr F hbind hm (fun b => ?_) (.inl (.inr ⟨ob, yes⟩)) (fun b u z => ?_) (fun b z => ?_) fun _ => hk
    · by_cases h : b = a
      · rw [h]; exact .inr ⟨_, _, yes⟩
      · exact .inl (no h)
    · by_cases h : b = a
      · subst h
        rw [yes] at z
        cases z
        exact ⟨ha, by rw [List.length_map]; exact hl, vs, _, rv, ha⟩
      · rw [no h] at z; cases z
    · by_cases h : b = a
      · exact h
      · exact absurd (no h) z
end
/-- the law's walk, from its def's contract and its meaning -/
theorem walk_end {l : PySem.W.OpenLaw} {n k : Nat} {q : Program} {loose : List Str} {XP : (Str → Option Value) → Heap → Prop} {YP : World → Heap → Prop} {d : DefRec} {x : Str} {m : List D → Option D}
    (hn : l.most = some n) (hn2 : n ≤ sizeLine) (hdf : d.params.defaults = []) (hr : Room k callerA)
    (F : ∀ (w : World) (mg : Str → Option Value) (fa : Addr) (h : Heap), YP w h → h.Ns mainGlobals mg → mg d.name = some (.ref fa) →
      ∃ (K : PySem.W.Frag) (fd : FuncData), K.In h ∧ (∀ (s : Shared) (u : Value), BindsTo s fd ⟨[u], []⟩ [(x, u)]) ∧
        ∀ base : Heap, K.In base → base.Ns mainGlobals mg → FnG l.prog w K mg base k fa fd [x] (spD K 1 m))
    (hm : ∀ ns : List Int, ns.length ≤ n → m [.list (ns.map PyData.int)] = some (.bool true)) :
    PySem.W.WalkO q loose XP YP l.row.toRowW d [] (fun f vs => PySem.call f vs) := by
  refine Att.attach_call hn hdf ?_
  intro w s₀ s₁ mg mb fa o pm cd doc a vs ns G Y ho hd hcd hmg hobj hints hlen hg
  obtain ⟨K, fd, KX, hb, hF⟩ := F w mg fa _ Y G.T.g hmg
  exact end_call KX G.T.g G.T.b G.T.builtins G.T.nolimit hg hobj hints (Nat.le_trans hlen hn2) hr hF hb (hm ns hlen)
end PL

set_option maxHeartbeats 4000000
/-! The pure layer, part i: the operators and built-ins by data. -/
namespace PL
open PySem PySem.Spec PyProof.Rows L2

def MulOk (i j : Int) : Prop := (-(2 ^ 64) < i ∧ i < 2 ^ 64) ∨ (-(2 ^ 64) < j ∧ j < 2 ^ 64) ∨ (i.natAbs < 2 ^ 9000 ∧ j.natAbs < 2 ^ 9000)
instance (i j : Int) : Decidable (MulOk i j) := by unfold MulOk; infer_instance
def DivOk (j : Int) : Prop := 0 < j ∧ j.natAbs < 2 ^ 9000
instance (j : Int) : Decidable (DivOk j) := by unfold DivOk; infer_instance
def dAdd : D → D → Option D
  | .int i, .int j => some (.int (i + j))
  | .str a, .str b => if a.length + b.length ≤ sizeLine then some (.str (a ++ b)) else none
  | .list a, .list b => if a.length + b.length ≤ sizeLine then some (.list (a ++ b)) else none
  | .tuple a, .tuple b => if a.length + b.length ≤ sizeLine then some (.tuple (a ++ b)) else none
  | _, _ => none
def dSub : D → D → Option D
  | .int i, .int j => some (.int (i - j))
  | _, _ => none
def dMul : D → D → Option D
  | .int i, .int j => if MulOk i j then some (.int (i * j)) else none
  | .str z, .int n => if -(2 ^ 62) ≤ n ∧ n < 2 ^ 62 ∧ z.length * n.toNat ≤ sizeLine then some (.str (Txt.mul z n)) else none
  | _, _ => none
def dDiv : D → D → Option D
  | .int i, .int j => if DivOk j then some (.int (i / j)) else none
  | _, _ => none
def dMod : D → D → Option D
  | .int i, .int j => if 0 < j then some (.int (i % j)) else none
  | _, _ => none
def dPow : D → D → Option D
  | .int i, .int j => if 0 ≤ j ∧ j ≤ 1000 ∧ i.natAbs < 2 ^ 64 then some (.int (i ^ j.toNat)) else none
  | _, _ => none
def dNeg : D → Option D
  | .int i => some (.int (-i))
  | _ => none
def dLt : D → D → Option D
  | .int i, .int j => some (.bool (decide (i < j)))
  | .str a, .str b => some (.bool (decide (a.cps.toList < b.cps.toList)))
  | _, _ => none
def dLe : D → D → Option D
  | .int i, .int j => some (.bool (decide (i ≤ j)))
  | _, _ => none
def dGt : D → D → Option D
  | .int i, .int j => some (.bool (decide (j < i)))
  | _, _ => none
def dGe : D → D → Option D
  | .int i, .int j => some (.bool (decide (j ≤ i)))
  | _, _ => none
def dEqB : D → D → Option Bool
  | .int i, .int j => some (decide (i = j))
  | .str a, .str b => some (decide (a = b))
  | .bool a, .bool b => some (decide (a = b))
  | .none, .none => some true
  | a, b => if SeqAt.shaped a = true ∧ SeqAt.shaped b = true then some (PyData.eqv a b) else none
def dEq (a b : D) : Option D := (dEqB a b).map .bool
def dNe (a b : D) : Option D := (dEqB a b).map fun k => .bool (!k)
def isN : D → Bool
  | .none => true
  | _ => false
def dIs (a b : D) : Option D := if isN b = true then some (.bool (isN a)) else none
def dIsNot (a b : D) : Option D := if isN b = true then some (.bool (!isN a)) else none
/-- flat data -/
def flatD : D → Bool
  | .none => true
  | .bool _ => true
  | .int _ => true
  | .str _ => true
  | _ => false
def dInB : D → D → Option Bool
  | a, .list ds => if flatD a = true ∧ ds.all flatD = true then some (ds.any fun z => PyData.eqv z a) else if SeqAt.shaped a = true ∧ SeqAt.shaped (.list ds) = true then some (ds.any fun z => PyData.eqv z a) else none
  | a, .tuple ds => if flatD a = true ∧ ds.all flatD = true then some (ds.any fun z => PyData.eqv z a) else none
  | .str a, .str b => some (!(Builtin.Str.occurrences b a 0 b.length 1).isEmpty)
  | _, _ => none
def dIn (a b : D) : Option D := (dInB a b).map .bool
def dNotIn (a b : D) : Option D := (dInB a b).map fun k => .bool (!k)
def dIx : D → D → Option D
  | .list ds, .int k => atI ds k
  | .tuple ds, .int k => atI ds k
  | .str z, .int k => if z.length ≤ sizeLine then (atI z.cps.toList k).map fun c => .str ⟨#[c]⟩ else none
  | _, _ => none
def cutD (ds : List D) (lo hi : Option Int) : List D := (ds.drop (HT.sIx ds.length 0 lo)).take (HT.sIx ds.length ds.length hi - HT.sIx ds.length 0 lo)
def dSl (a : D) (lo hi : Option Int) : Option D := match a with
  | .list ds => some (.list (cutD ds lo hi))
  | .tuple ds => some (.tuple (cutD ds lo hi))
  | .str z => if z.length ≤ sizeLine then some (.str (cutS z lo hi)) else none
  | _ => none
def dLen : List D → Option D
  | [.list ds] => some (.int ds.length)
  | [.tuple ds] => some (.int ds.length)
  | [.str z] => if z.length ≤ sizeLine then some (.int z.length) else none
  | _ => none
def dAbs : List D → Option D
  | [.int i] => some (.int (if i < 0 then -i else i))
  | _ => none
def dInt : List D → Option D
  | [.int i] => some (.int i)
  | [.bool b] => some (.int (if b then 1 else 0))
  | [.str z] => if z.length ≤ 640 then (intText? z).map .int else none
  | _ => none
def intsOf : List D → Option (List Int)
  | [] => some []
  | .int i :: r => (intsOf r).map (i :: ·)
  | _ => none
def boolsOf : List D → Option (List Bool)
  | [] => some []
  | .bool i :: r => (boolsOf r).map (i :: ·)
  | _ => none
def strsOf : List D → Option (List Str)
  | [] => some []
  | .str i :: r => (strsOf r).map (i :: ·)
  | _ => none
def dSum : List D → Option D
  | [.list ds] => (intsOf ds).map fun ns => .int ns.sum
  | [.tuple ds] => (intsOf ds).map fun ns => .int ns.sum
  | _ => none
def maxI : List Int → Int
  | [] => 0
  | [x] => x
  | x :: r => if x < maxI r then maxI r else x
def minI : List Int → Int
  | [] => 0
  | [x] => x
  | x :: r => if minI r < x then minI r else x
def dMax : List D → Option D
  | [.list ds] => (intsOf ds).bind fun ns => if ns.length = 0 then none else some (.int (maxI ns))
  | [.int i, .int j] => some (.int (if j > i then j else i))
  | _ => none
def dMin : List D → Option D
  | [.list ds] => (intsOf ds).bind fun ns => if ns.length = 0 then none else some (.int (minI ns))
  | [.int i, .int j] => some (.int (if j < i then j else i))
  | _ => none
def dAll : List D → Option D
  | [.list ds] => (boolsOf ds).map fun bs => .bool (bs.all id)
  | _ => none
def dAny : List D → Option D
  | [.list ds] => (boolsOf ds).map fun bs => .bool (bs.any id)
  | _ => none
def dTuple : List D → Option D
  | [.list ds] => some (.tuple ds)
  | [.tuple ds] => some (.tuple ds)
  | _ => none
def fList : List D → Option (List D)
  | [.list ds] => some ds
  | [.tuple ds] => some ds
  | _ => none
def dStr : List D → Option D
  | [.int i] => if i.natAbs.log2 < 1920 then some (.str (toString i)) else none
  | _ => none
def dJoin : D → List D → Option D
  | .str a, [.list ds] => (strsOf ds).bind fun ys => if (ys.map (·.length)).sum + ys.length * a.length ≤ 16777216 then some (.str (Txt.join a ys)) else none
  | _, _ => none
def dRepr : List D → Option D
  | [d] => if d.showable = true ∧ d.hasDict = false ∧ d.depth ≤ 64 ∧ d.shown.length ≤ sizeLine then (match d with
    | .list _ => some (.str d.shown)
    | .tuple _ => some (.str d.shown)
    | _ => none) else none
  | _ => none
/-- int, bool, str, list, tuple -/
def clsD : D → String
  | .none => "NoneType"
  | .bool _ => "bool"
  | .int _ => "int"
  | .str _ => "str"
  | .list _ => "list"
  | .tuple _ => "tuple"
  | .dict _ => "dict"

section
variable {X : Cx} {x y c : Expr} {es : List Expr} {ma mb mc : SE} {pos p p2 : Pos}
theorem Dp.int_inv {K : PySem.W.Frag} {G : Hp} {v : V} {i : Int} (h : Dp K G v (.int i)) : v = .int i := by cases h; rfl
theorem Dp.str_inv {K : PySem.W.Frag} {G : Hp} {v : V} {i : Str} (h : Dp K G v (.str i)) : v = .str i := by cases h; rfl
/-- two ints -/
theorem op2I {f : Value → Value → Sem Value} {C : Int → Int → Prop} {g : Int → Int → V} (ho : OpR X f (rI C g)) {op : D → D → Option D} (hi : ∀ a b c, op a b = some c → ∃ i j, a = .int i ∧ b = .int j ∧ C i j ∧ ∀ G, Dp X.K G (g i j) c) : OpR X f (rD2 X.K op) :=
  weakOp ho fun x y H Q ⟨G, a, b, c, s, h1, h2, hm, q⟩ => by
    obtain ⟨i, j, rfl, rfl, hc, hd⟩ := hi a b c hm
    cases h1
    cases h2
    exact ⟨i, j, rfl, rfl, hc, q _ G H (.refl s) (hd G)⟩
theorem op2I0 {f : Value → Value → Sem Value} {g : Int → Int → V} (ho : OpR X f (rI0 g)) {op : D → D → Option D} (hi : ∀ a b c, op a b = some c → ∃ i j, a = .int i ∧ b = .int j ∧ ∀ G, Dp X.K G (g i j) c) : OpR X f (rD2 X.K op) :=
  weakOp ho fun x y H Q ⟨G, a, b, c, s, h1, h2, hm, q⟩ => by
    obtain ⟨i, j, rfl, rfl, hd⟩ := hi a b c hm
    cases h1
    cases h2
    exact ⟨i, j, rfl, rfl, q _ G H (.refl s) (hd G)⟩
theorem op_sub' : OpR X (binaryOp .Sub) (rD2 X.K dSub) := op2I0 op_sub fun a b c h => by
  unfold dSub at h
  split at h <;> cases h
  exact ⟨_, _, rfl, rfl, fun _ => .int _⟩
theorem op_mulS : OpR X (binaryOp .Mult) (fun x y H Q => ∃ z n, x = .str z ∧ y = .int n ∧ PySem.MulOk z n ∧ Q (.str (Txt.mul z n)) H) := by
  intro pins s σ H x y v u Q I rx ry h
  obtain ⟨z, n, rfl, rfl, ok, q⟩ := h
  obtain ⟨t, rfl⟩ := rx
  obtain ⟨t', rfl⟩ := ry
  exact PySem.SB.mul ok fun t2 k => ⟨.str (Txt.mul z n), H, I.tok _, ⟨_, rfl⟩, q⟩
theorem mulS_ok {z : Str} {n : Int} (h1 : -(2 ^ 62) ≤ n) (h2 : n < 2 ^ 62) (h3 : z.length * n.toNat ≤ sizeLine) : PySem.MulOk z n := by
  refine ⟨?_, fun h4 h5 => ?_, fun h4 h5 => ?_⟩
  · rw [Bool.or_eq_false_iff, decide_eq_false_iff_not, decide_eq_false_iff_not]; omega
  · intro h6
    have h7 : (2 ^ 63 - 1) / n < (z.length : Int) := h6
    rw [Int.ediv_lt_iff_lt_mul (by omega)] at h7
    have h8 : ((z.length * n.toNat : Nat) : Int) = z.length * n := by rw [Int.natCast_mul, Int.toNat_of_nonneg (by omega)]
    have h9 : (sizeLine : Nat) = 16777216 := sizeLine_eq
    omega
  · show decide (_ > sizeLine) = false
    exact decide_eq_false (by omega)
theorem op_mul' : OpR X (binaryOp .Mult) (rD2 X.K dMul) := by
  have base : OpR X (binaryOp .Mult) (rI MulOk fun i j => .int (i * j)) := by
    refine weakOp (op_mul.or op_mulW) fun x y H Q ⟨i, j, e1, e2, hc, q⟩ => ?_
    rcases hc with hc | hc | ⟨h1, h2⟩
    · exact .inl ⟨i, j, e1, e2, .inl hc, q⟩
    · exact .inl ⟨i, j, e1, e2, .inr hc, q⟩
    · exact .inr ⟨i, j, e1, e2, wide_mul h1 h2 (by decide) (by decide) (by decide), q⟩
  refine weakOp (base.or op_mulS) fun x y H Q ⟨G, a, b, c, s, h1, h2, hm, q⟩ => ?_
  unfold dMul at hm
  split at hm
  · split at hm
    · rename_i hc
      cases hm
      cases h1; cases h2
      exact .inl ⟨_, _, rfl, rfl, hc, q _ G H (.refl s) (.int _)⟩
    · cases hm
  · split at hm
    · rename_i hc
      cases hm
      cases h1; cases h2
      exact .inr ⟨_, _, rfl, rfl, mulS_ok hc.1 hc.2.1 hc.2.2, q _ G H (.refl s) (.str _)⟩
    · cases hm
  · cases hm
theorem op_div' : OpR X (binaryOp .FloorDiv) (rD2 X.K dDiv) := by
  refine op2I op_fdivW fun a b c h => ?_
  unfold dDiv at h
  split at h
  · split at h
    · rename_i hc
      cases h
      exact ⟨_, _, rfl, rfl, wide_div hc.1 hc.2 (by decide) (by decide), fun _ => .int _⟩
    · cases h
  · cases h
theorem op_mod' : OpR X (binaryOp .Mod) (rD2 X.K dMod) := by
  refine op2I op_mod fun a b c h => ?_
  unfold dMod at h
  split at h
  · split at h
    · rename_i hc
      cases h
      exact ⟨_, _, rfl, rfl, hc, fun _ => .int _⟩
    · cases h
  · cases h
theorem op_pow' : OpR X (binaryOp .Pow) (rD2 X.K dPow) := by
  refine op2I op_pow fun a b c h => ?_
  unfold dPow at h
  split at h
  · split at h
    · rename_i hc
      cases h
      exact ⟨_, _, rfl, rfl, ⟨hc.1, by have := hc.2.1; omega, hc.2.2⟩, fun _ => .int _⟩
    · cases h
  · cases h
theorem un_neg' : UnR X (unaryOp .USub) (rD1 X.K dNeg) := weakUn un_neg fun x H Q ⟨G, a, c, s, h1, hm, q⟩ => by
  unfold dNeg at hm
  split at hm <;> cases hm
  cases h1
  exact ⟨_, rfl, q _ G H (.refl s) (.int _)⟩
theorem op_lt' : OpR X (compareOp .Lt) (rD2 X.K dLt) := weakOp (op_lt.or op_lt_str) fun x y H Q ⟨G, a, b, c, s, h1, h2, hm, q⟩ => by
  unfold dLt at hm
  split at hm <;> cases hm
  · cases h1; cases h2
    exact .inl ⟨_, _, rfl, rfl, q _ G H (.refl s) (.bl _)⟩
  · cases h1; cases h2
    exact .inr ⟨_, _, rfl, rfl, q _ G H (.refl s) (.bl _)⟩
theorem op_le' : OpR X (compareOp .LtE) (rD2 X.K dLe) := op2I0 op_le fun a b c h => by
  unfold dLe at h
  split at h <;> cases h
  exact ⟨_, _, rfl, rfl, fun _ => .bl _⟩
theorem op_gt' : OpR X (compareOp .Gt) (rD2 X.K dGt) := op2I0 op_gt fun a b c h => by
  unfold dGt at h
  split at h <;> cases h
  exact ⟨_, _, rfl, rfl, fun _ => .bl _⟩
theorem op_ge' : OpR X (compareOp .GtE) (rD2 X.K dGe) := op2I0 op_ge fun a b c h => by
  unfold dGe at h
  split at h <;> cases h
  exact ⟨_, _, rfl, rfl, fun _ => .bl _⟩
/-! ### + -/
theorem catL {l b : Addr} {its its2 : List Value} {pins : List (Addr × Obj)} {σ : VSt} {H : Hp} {s : Shared} {xs ys : List V} {Q : VK} (I : L2.Inv X pins σ H s) (h1 : PlainL s.heap l its.toArray) (h2 : PlainL s.heap b its2.toArray) (r1 : Vals xs its) (r2 : Vals ys its2) (hz : xs.length + ys.length ≤ sizeLine)
    (q : ∀ a, H a = none → Q (.ref a) (upd H a (.lst (xs ++ ys)))) : wpAny (model X.prog X.w) X.A (binaryOp .Add (.ref l) (.ref b)) (EP X pins σ Q) X.xe s := by
  obtain ⟨⟨cls, dd, data, sl⟩, n, ho, hc, hd0, hd⟩ := h1
  obtain ⟨⟨cls2, dd2, data2, sl2⟩, n2, ho2, hc2, hd02, hd2⟩ := h2
  simp only at hc hd hc2 hd2
  subst hc hd hc2 hd2
  have hsz : its.toArray.size + its2.toArray.size ≤ sizeLine := by rw [List.size_toArray, List.size_toArray, ← r1.length, ← r2.length]; exact hz
  refine concat_meets ⟨_, ho, rfl⟩ ⟨_, ho2, rfl⟩ noFill_list_add seq_list_add PySem.F.slot_list_add PySem.F.entry_list_add (PySem.F.args_list_add_2 _ _) (list_addW l b its.toArray its2.toArray n n2 dd dd2 sl sl2 hsz) ⟨ho, ho2, ?_⟩
  rw [show its.toArray ++ its2.toArray = (its ++ its2).toArray by simp]
  exact ⟨.ref _, _, I.lnew (t' := s.toks) (r1.append r2) (by rw [List.length_append]; exact hz), rfl, q _ I.fresh⟩
theorem op_add' : OpR X (binaryOp .Add) (rD2 X.K dAdd) := by
  intro pins s σ H x y v u Q I rx ry h
  obtain ⟨G, a, b, c, sg, h1, h2, hm, q⟩ := h
  unfold dAdd at hm
  split at hm
  · cases hm; cases h1; cases h2
    exact op_add pins s σ H _ _ v u Q I rx ry ⟨_, _, rfl, rfl, q _ G H (.refl sg) (.int _)⟩
  · split at hm
    · rename_i hz
      cases hm; cases h1; cases h2
      exact op_add_str pins s σ H _ _ v u Q I rx ry ⟨_, _, rfl, rfl, hz, q _ G H (.refl sg) (.str _)⟩
    · cases hm
  · split at hm
    · rename_i hz
      cases hm
      cases h1 with
      | lst hs1 ha1 =>
        cases h2 with
        | lst hs2 ha2 =>
          cases rx; cases ry
          obtain ⟨i1, r1, p1, _⟩ := I.list (sg.seq hs1)
          obtain ⟨i2, r2, p2, _⟩ := I.list (sg.seq hs2)
          refine catL I p1 p2 r1 r2 (by rw [DpAll.length ha1, DpAll.length ha2]; exact hz) fun ad hn => ?_
          exact q _ _ _ (.new sg hn) (Sf.new sg hn (DpAll.app ha1 ha2))
    · cases hm
  · split at hm
    · rename_i hz
      cases hm
      cases h1 with
      | tup hs1 ha1 =>
        cases h2 with
        | tup hs2 ha2 =>
          refine op_catA pins s σ H _ _ v u Q I rx ry ⟨_, _, _, _, rfl, rfl, sqT_mono sg hs1, sqT_mono sg hs2, by rw [DpAll.length ha1, DpAll.length ha2]; exact hz, fun e => ?_, fun _ e => ?_, fun _ _ ad hn => ?_⟩
          · subst e
            cases ha1
            exact q _ G H (.refl sg) (.tup hs2 ha2)
          · subst e
            cases ha2
            rw [List.append_nil] at q
            exact q _ G H (.refl sg) (.tup hs1 ha1)
          · exact q _ _ _ (.new sg hn) (St.new sg hn (DpAll.app ha1 ha2))
    · cases hm
  · cases hm
/-! ### ==, in, is -/
theorem scal_ok {G : Hp} {x y : V} {a b : D} (h1 : Dp X.K G x a) (h2 : Dp X.K G y b) {k : Bool} (hk : dEqB a b = some k) : (scal x y = true ∧ decide (x = y) = k) ∨ (SeqAt.shaped a = true ∧ SeqAt.shaped b = true ∧ PyData.eqv a b = k) := by
  unfold dEqB at hk
  split at hk
  · cases hk; cases h1; cases h2
    exact .inl ⟨rfl, by rw [Bool.eq_iff_iff]; simp⟩
  · cases hk; cases h1; cases h2
    exact .inl ⟨rfl, by rw [Bool.eq_iff_iff]; simp⟩
  · cases hk; cases h1; cases h2
    exact .inl ⟨rfl, by rw [Bool.eq_iff_iff]; simp⟩
  · cases hk; cases h1; cases h2
    exact .inl ⟨rfl, by simp⟩
  · split at hk
    · rename_i hs
      cases hk
      exact .inr ⟨hs.1, hs.2, rfl⟩
    · cases hk
theorem op_eq' (hu : X.A.units + 64 < cLine) : OpR X (compareOp .Eq) (rD2 X.K dEq) := weakOp (op_eq.or (op_eqD hu)) fun x y H Q ⟨G, a, b, c, s, h1, h2, hm, q⟩ => by
  obtain ⟨k, hk, rfl⟩ := Option.map_eq_some_iff.mp hm
  rcases scal_ok h1 h2 hk with ⟨z1, z2⟩ | ⟨z1, z2, z3⟩
  · exact .inl ⟨z1, by rw [z2]; exact q _ G H (.refl s) (.bl _)⟩
  · exact .inr ⟨a, b, dp_mono s _ _ h1, dp_mono s _ _ h2, z1, z2, by rw [z3]; exact q _ G H (.refl s) (.bl _)⟩
theorem op_ne' (hu : X.A.units + 64 < cLine) : OpR X (compareOp .NotEq) (rD2 X.K dNe) := weakOp (op_ne.or (op_neD hu)) fun x y H Q ⟨G, a, b, c, s, h1, h2, hm, q⟩ => by
  obtain ⟨k, hk, rfl⟩ := Option.map_eq_some_iff.mp hm
  rcases scal_ok h1 h2 hk with ⟨z1, z2⟩ | ⟨z1, z2, z3⟩
  · exact .inl ⟨z1, by rw [z2]; exact q _ G H (.refl s) (.bl _)⟩
  · exact .inr ⟨a, b, dp_mono s _ _ h1, dp_mono s _ _ h2, z1, z2, by rw [z3]; exact q _ G H (.refl s) (.bl _)⟩
theorem isN_ok {G : Hp} {x : V} {a : D} (h : Dp X.K G x a) : decide (x = .non) = isN a := by
  cases h <;> simp [isN]
theorem op_is' : OpR X (compareOp .Is) (rD2 X.K dIs) := weakOp op_isN fun x y H Q ⟨G, a, b, c, s, h1, h2, hm, q⟩ => by
  unfold dIs at hm
  split at hm
  · rename_i hb
    cases hm
    cases h2 <;> first | cases hb | skip
    refine ⟨rfl, ?_⟩
    rw [isN_ok h1]
    exact q _ G H (.refl s) (.bl _)
  · cases hm
theorem op_isNot' : OpR X (compareOp .IsNot) (rD2 X.K dIsNot) := weakOp op_notN fun x y H Q ⟨G, a, b, c, s, h1, h2, hm, q⟩ => by
  unfold dIsNot at hm
  split at hm
  · rename_i hb
    cases hm
    cases h2 <;> first | cases hb | skip
    refine ⟨rfl, ?_⟩
    rw [isN_ok h1]
    exact q _ G H (.refl s) (.bl _)
  · cases hm
theorem flat_ok {G : Hp} {x : V} {a : D} (h : Dp X.K G x a) (f : flatD a = true) : flatV x = true := by
  cases h <;> first | rfl | cases f
theorem eqF_ok {G : Hp} {x y : V} {a b : D} (h1 : Dp X.K G x a) (h2 : Dp X.K G y b) (f1 : flatD a = true) (f2 : flatD b = true) : eqV x y = PyData.eqv a b := by
  cases h1 <;> cases h2 <;> first | exact absurd f1 Bool.false_ne_true | exact absurd f2 Bool.false_ne_true | simp [eqV, PyData.eqv]
theorem allF_ok {G : Hp} : ∀ {ds : List D} {xs : List V}, DpAll X.K G xs ds → ds.all flatD = true → xs.all flatV = true
  | [], _, h, _ => by cases h; rfl
  | d :: ds, _, h, f => by
    cases h with
    | cons h1 h2 =>
      rw [List.all_cons, Bool.and_eq_true] at f ⊢
      exact ⟨flat_ok h1 f.1, allF_ok h2 f.2⟩
theorem inF_ok {G : Hp} {x : V} {a : D} (h : Dp X.K G x a) (f : flatD a = true) : ∀ {ds : List D} {xs : List V}, DpAll X.K G xs ds → ds.all flatD = true → inV x xs = ds.any fun z => PyData.eqv z a
  | [], _, h2, _ => by cases h2; rfl
  | d :: ds, _, h2, g => by
    cases h2 with
    | cons h3 h4 =>
      rw [List.all_cons, Bool.and_eq_true] at g
      have ih := inF_ok h f h4 g.2
      unfold inV at ih ⊢
      rw [List.any_cons, List.any_cons, ih, eqF_ok h3 h g.1 f]
theorem inB_ok {G H : Hp} {x y : V} {a b : D} {k : Bool} (s : Same G H) (h1 : Dp X.K G x a) (h2 : Dp X.K G y b) (hk : dInB a b = some k) :
    (∃ pp xs, y = .ref pp ∧ (SqL X.K H pp xs ∨ SqT X.K H pp xs) ∧ flatV x = true ∧ xs.all flatV = true ∧ inV x xs = k) ∨ (∃ ds, b = .list ds ∧ SeqAt.shaped a = true ∧ SeqAt.shaped (.list ds) = true ∧ (ds.any fun z => PyData.eqv z a) = k) ∨
    (∃ z w : Str, x = .str z ∧ y = .str w ∧ (!(Builtin.Str.occurrences w z 0 w.length 1).isEmpty) = k) := by
  unfold dInB at hk
  split at hk
  · split at hk
    · rename_i hf
      cases hk
      cases h2 with
      | lst hs ha => exact .inl ⟨_, _, rfl, .inl (s.seq hs), flat_ok h1 hf.1, allF_ok ha hf.2, inF_ok h1 hf.1 ha hf.2⟩
    · split at hk
      · rename_i hs
        cases hk
        exact .inr (.inl ⟨_, rfl, hs.1, hs.2, rfl⟩)
      · cases hk
  · split at hk
    · rename_i hf
      cases hk
      cases h2 with
      | tup hs ha => exact .inl ⟨_, _, rfl, .inr (sqT_mono s hs), flat_ok h1 hf.1, allF_ok ha hf.2, inF_ok h1 hf.1 ha hf.2⟩
    · cases hk
  · cases hk; cases h1; cases h2
    exact .inr (.inr ⟨_, _, rfl, rfl, rfl⟩)
  · cases hk
theorem op_in' (hu : X.A.units + 65 < cLine) : OpR X (compareOp .In) (rD2 X.K dIn) := weakOp (op_in_seq.or ((op_inD hu).or op_in_str)) fun x y H Q ⟨G, a, b, c, s, h1, h2, hm, q⟩ => by
  obtain ⟨k, hk, rfl⟩ := Option.map_eq_some_iff.mp hm
  rcases inB_ok s h1 h2 hk with ⟨pp, xs, z1, z2, z3, z4, z5⟩ | ⟨ds, z1, z2, z3, z4⟩ | ⟨z, w, rfl, rfl, z4⟩
  · refine .inl ⟨pp, xs, z1, z2, z3, z4, ?_⟩
    rw [if_neg Bool.false_ne_true, z5]
    exact q _ G H (.refl s) (.bl _)
  · subst z1
    refine .inr (.inl ⟨a, ds, dp_mono s _ _ h1, dp_mono s _ _ h2, z2, z3, ?_⟩)
    rw [z4]
    exact q _ G H (.refl s) (.bl _)
  · refine .inr (.inr ⟨_, _, rfl, rfl, ?_⟩)
    rw [z4]
    exact q _ G H (.refl s) (.bl _)
theorem op_notIn' (hu : X.A.units + 65 < cLine) : OpR X (compareOp .NotIn) (rD2 X.K dNotIn) := weakOp (op_notIn_seq.or ((op_notInD hu).or op_notIn_str)) fun x y H Q ⟨G, a, b, c, s, h1, h2, hm, q⟩ => by
  obtain ⟨k, hk, rfl⟩ := Option.map_eq_some_iff.mp hm
  rcases inB_ok s h1 h2 hk with ⟨pp, xs, z1, z2, z3, z4, z5⟩ | ⟨ds, z1, z2, z3, z4⟩ | ⟨z, w, rfl, rfl, z4⟩
  · refine .inl ⟨pp, xs, z1, z2, z3, z4, ?_⟩
    rw [if_pos rfl, z5]
    exact q _ G H (.refl s) (.bl _)
  · subst z1
    refine .inr (.inl ⟨a, ds, dp_mono s _ _ h1, dp_mono s _ _ h2, z2, z3, ?_⟩)
    rw [z4]
    exact q _ G H (.refl s) (.bl _)
  · refine .inr (.inr ⟨_, _, rfl, rfl, ?_⟩)
    rw [z4]
    exact q _ G H (.refl s) (.bl _)
/-! ### items, slices -/
theorem ix' : IxR X (rD2 X.K dIx) := weakIx ix_seq fun x y H Q ⟨G, a, b, c, s, h1, h2, hm, q⟩ => by
  unfold dIx at hm
  split at hm
  · cases h2
    cases h1 with
    | lst hs ha =>
      obtain ⟨v, w1, w2⟩ := atI_dp ha hm
      exact .inl ⟨_, _, _, v, rfl, rfl, s.seq hs, w1, q v G H (.refl s) w2⟩
  · cases h2
    cases h1 with
    | tup hs ha =>
      obtain ⟨v, w1, w2⟩ := atI_dp ha hm
      exact .inr (.inl ⟨_, _, _, v, rfl, rfl, sqT_mono s hs, w1, q v G H (.refl s) w2⟩)
  · cases h2; cases h1
    split at hm
    · rename_i hz
      obtain ⟨cc, w1, rfl⟩ := Option.map_eq_some_iff.mp hm
      exact .inr (.inr ⟨_, _, cc, rfl, rfl, hz, w1, q _ G H (.refl s) (.str _)⟩)
    · cases hm
  · cases hm
theorem cut_dp {K : PySem.W.Frag} {G : Hp} {xs : List V} {ds : List D} (h : DpAll K G xs ds) (lo hi : Option Int) : DpAll K G (cutV xs lo hi) (cutD ds lo hi) := by
  unfold cutV cutD
  rw [DpAll.length h]
  exact DpAll.take _ (DpAll.drop _ h)
theorem weakSl {r r' : V → Option Int → Option Int → Hp → VK → Prop} (h : SlR X r) (w : ∀ x lo hi H Q, r' x lo hi H Q → r x lo hi H Q) : SlR X r' := fun pins s σ H x v vl vu lo hi sl Q I rx hs pl pu q => h pins s σ H x v vl vu lo hi sl Q I rx hs pl pu (w _ _ _ _ _ q)
theorem sl' : SlR X (rDs X.K dSl) := weakSl (sl_list.or (sl_tupA.or sl_str)) fun x lo hi H Q ⟨G, a, c, s, h1, hm, q⟩ => by
  unfold dSl at hm
  split at hm
  · cases hm
    cases h1 with
    | lst hs ha => exact .inl ⟨_, _, rfl, s.seq hs, fun ad hn => q _ _ _ (.new s hn) (Sf.new s hn (cut_dp ha lo hi))⟩
  · rename_i ds
    cases hm
    cases h1 with
    | tup hs ha =>
      refine .inr (.inl ⟨_, _, rfl, sqT_mono s hs, fun hw => ?_, fun _ ad hn => q _ _ _ (.new s hn) (St.new s hn (cut_dp ha lo hi))⟩)
      have e : cutD ds lo hi = ds := by
        unfold cutD
        rw [← DpAll.length ha, hw.1, hw.2, List.drop_zero, Nat.sub_zero, DpAll.length ha]
        exact List.take_length
      rw [e] at q
      exact q _ G H (.refl s) (.tup hs ha)
  · split at hm
    · rename_i hz
      cases hm; cases h1
      exact .inr (.inr ⟨_, rfl, hz, q _ G H (.refl s) (.str _)⟩)
    · cases hm
  · cases hm
/-! ### built-in functions -/
theorem dp1 {K : PySem.W.Frag} {G : Hp} {xs : List V} {d : D} (h : DpAll K G xs [d]) : ∃ v, xs = [v] ∧ Dp K G v d := by
  cases h with
  | cons h1 h2 => cases h2; exact ⟨_, rfl, h1⟩
theorem dp2 {K : PySem.W.Frag} {G : Hp} {xs : List V} {d e : D} (h : DpAll K G xs [d, e]) : ∃ v w, xs = [v, w] ∧ Dp K G v d ∧ Dp K G w e := by
  cases h with
  | cons h1 h2 =>
    obtain ⟨w, rfl, h3⟩ := dp1 h2
    exact ⟨_, _, rfl, h1, h3⟩
theorem ints_dp {K : PySem.W.Frag} {G : Hp} : ∀ {ds : List D} {xs : List V} {ns : List Int}, DpAll K G xs ds → intsOf ds = some ns → xs = ns.map V.int
  | [], _, _, h, e => by cases h; cases e; rfl
  | d :: ds, _, ns, h, e => by
    cases h with
    | cons h1 h2 =>
      cases d <;> first | cases e | skip
      obtain ⟨ms, e1, rfl⟩ := Option.map_eq_some_iff.mp e
      cases h1
      rw [ints_dp h2 e1]; rfl
theorem bools_dp {K : PySem.W.Frag} {G : Hp} : ∀ {ds : List D} {xs : List V} {ns : List Bool}, DpAll K G xs ds → boolsOf ds = some ns → xs = ns.map V.bl
  | [], _, _, h, e => by cases h; cases e; rfl
  | d :: ds, _, ns, h, e => by
    cases h with
    | cons h1 h2 =>
      cases d <;> first | cases e | skip
      obtain ⟨ms, e1, rfl⟩ := Option.map_eq_some_iff.mp e
      cases h1
      rw [bools_dp h2 e1]; rfl
theorem strs_dp {K : PySem.W.Frag} {G : Hp} : ∀ {ds : List D} {xs : List V} {ns : List Str}, DpAll K G xs ds → strsOf ds = some ns → xs = ns.map V.str
  | [], _, _, h, e => by cases h; cases e; rfl
  | d :: ds, _, ns, h, e => by
    cases h with
    | cons h1 h2 =>
      cases d <;> first | cases e | skip
      obtain ⟨ms, e1, rfl⟩ := Option.map_eq_some_iff.mp e
      cases h1
      rw [strs_dp h2 e1]; rfl
theorem call_len' : CallR X (.builtin "len") (rDn X.K dLen) := weakCall (call_len_seq.or call_len_str) fun xs H Q ⟨G, ds, c, s, h, hm, q⟩ => by
  unfold dLen at hm
  split at hm
  · cases hm
    obtain ⟨v, rfl, h1⟩ := dp1 h
    cases h1 with
    | lst hs ha => exact .inl ⟨_, _, rfl, .inl (s.seq hs), by rw [DpAll.length ha]; exact q _ G H (.refl s) (.int _)⟩
  · cases hm
    obtain ⟨v, rfl, h1⟩ := dp1 h
    cases h1 with
    | tup hs ha => exact .inl ⟨_, _, rfl, .inr (sqT_mono s hs), by rw [DpAll.length ha]; exact q _ G H (.refl s) (.int _)⟩
  · split at hm
    · rename_i hz
      cases hm
      obtain ⟨v, rfl, h1⟩ := dp1 h
      cases h1
      exact .inr ⟨_, rfl, hz, q _ G H (.refl s) (.int _)⟩
    · cases hm
  · cases hm
theorem call_abs' : CallR X (.builtin "abs") (rDn X.K dAbs) := weakCall call_abs fun xs H Q ⟨G, ds, c, s, h, hm, q⟩ => by
  unfold dAbs at hm
  split at hm <;> cases hm
  obtain ⟨v, rfl, h1⟩ := dp1 h
  cases h1
  exact ⟨_, rfl, q _ G H (.refl s) (.int _)⟩
theorem call_int' : CallR X (.type "int") (rDn X.K dInt) := weakCall (call_int1.or call_int_str) fun xs H Q ⟨G, ds, c, s, h, hm, q⟩ => by
  unfold dInt at hm
  split at hm
  · cases hm
    obtain ⟨v, rfl, h1⟩ := dp1 h
    cases h1
    exact .inl (.inl ⟨_, rfl, q _ G H (.refl s) (.int _)⟩)
  · cases hm
    obtain ⟨v, rfl, h1⟩ := dp1 h
    cases h1
    exact .inl (.inr ⟨_, rfl, q _ G H (.refl s) (.int _)⟩)
  · split at hm
    · rename_i hz
      obtain ⟨n, hn, rfl⟩ := Option.map_eq_some_iff.mp hm
      obtain ⟨v, rfl, h1⟩ := dp1 h
      cases h1
      exact .inr ⟨_, n, rfl, hn, hz, q _ G H (.refl s) (.int _)⟩
    · cases hm
  · cases hm
theorem sumT_raw {prog : Program} {w : World} {A : Around} {E : Value → Shared → Prop} {s : Shared} {l : Addr} {its : List Value} {ns : List Int} {Q : Value → Shared → Prop} (hh : A.handled = none) (hl : s.heap.IsTuple l its.toArray) (hi : IntsAre its ns)
    (h : ∀ h' tk t', (∀ b o, s.heap.get? b = some o → h'.get? b = some o) → Q (.int ns.sum t') { s with heap := h', toks := tk }) : wpAny (model prog w) A (call (.builtin "sum") [.ref l]) Q E s := by
  obtain ⟨xs, e⟩ := hi.allInts.items
  have hn : numsOf (intItems xs).toList = ns := by rw [← e]; exact hi.numsOf
  rw [nums_intItems] at hn
  rw [e] at hl
  refine PySem.W.ktm_sumG hh hl fun h' tk t' hk => ?_
  have := h h' tk t' hk
  rw [preSum_eq, List.take_of_length_le (by simp), hn]; exact this
def rSumT (K : PySem.W.Frag) : List V → Hp → VK → Prop := fun vs H Q => ∃ (a : Addr) (ns : List Int), vs = [V.ref a] ∧ SqT K H a (ns.map V.int) ∧ Q (.int ns.sum) H
theorem cr_sumT (hc : X.calm = true) : CallR X (.builtin "sum") (rSumT X.K) := by
  intro pins s σ H vs us Q I r h
  obtain ⟨a, ns, rfl, hs, q⟩ := h
  obtain ⟨its, rv, hl, _⟩ := I.tuple hs
  rw [Vals.ref1 r]
  exact sumT_raw (I.ok.hd hc) hl rv.ints fun h' tk t' hk => ⟨.int _, H, I.kept hk, ⟨_, rfl⟩, q⟩
theorem call_sum' (hc : X.calm = true) : CallR X (.builtin "sum") (rDn X.K dSum) := weakCall ((cr_sum hc).or (cr_sumT hc)) fun xs H Q ⟨G, ds, c, s, h, hm, q⟩ => by
  unfold dSum at hm
  split at hm
  · obtain ⟨ns, e, rfl⟩ := Option.map_eq_some_iff.mp hm
    obtain ⟨v, rfl, h1⟩ := dp1 h
    cases h1 with
    | lst hs ha =>
      have ex := ints_dp ha e
      subst ex
      exact .inl ⟨_, ns, rfl, s.seq hs, q _ G H (.refl s) (.int _)⟩
  · obtain ⟨ns, e, rfl⟩ := Option.map_eq_some_iff.mp hm
    obtain ⟨v, rfl, h1⟩ := dp1 h
    cases h1 with
    | tup hs ha =>
      have ex := ints_dp ha e
      subst ex
      exact .inr ⟨_, ns, rfl, sqT_mono s hs, q _ G H (.refl s) (.int _)⟩
  · cases hm
theorem maxI_mem : ∀ {ns : List Int}, ns ≠ [] → maxI ns ∈ ns
  | [x], _ => by simp [maxI]
  | x :: y :: r, _ => by
    have ih := maxI_mem (ns := y :: r) (by simp)
    unfold maxI
    split
    · exact List.mem_cons_of_mem _ ih
    · exact List.mem_cons_self
theorem maxI_le : ∀ {ns : List Int} {y : Int}, y ∈ ns → y ≤ maxI ns
  | [x], y, h => by
    rw [List.mem_singleton] at h
    subst h
    exact Int.le_refl _
  | x :: z :: r, y, h => by
    have ih : ∀ {y : Int}, y ∈ z :: r → y ≤ maxI (z :: r) := fun h => maxI_le h
    unfold maxI
    split
    · rename_i hl
      rcases List.mem_cons.mp h with rfl | h
      · exact Int.le_of_lt hl
      · exact ih h
    · rename_i hl
      rcases List.mem_cons.mp h with rfl | h
      · exact Int.le_refl _
      · exact Int.le_trans (ih h) (Int.not_lt.mp hl)
theorem minI_mem : ∀ {ns : List Int}, ns ≠ [] → minI ns ∈ ns
  | [x], _ => by simp [minI]
  | x :: y :: r, _ => by
    have ih := minI_mem (ns := y :: r) (by simp)
    unfold minI
    split
    · exact List.mem_cons_of_mem _ ih
    · exact List.mem_cons_self
theorem minI_le : ∀ {ns : List Int} {y : Int}, y ∈ ns → minI ns ≤ y
  | [x], y, h => by
    rw [List.mem_singleton] at h
    subst h
    exact Int.le_refl _
  | x :: z :: r, y, h => by
    have ih : ∀ {y : Int}, y ∈ z :: r → minI (z :: r) ≤ y := fun h => minI_le h
    unfold minI
    split
    · rename_i hl
      rcases List.mem_cons.mp h with rfl | h
      · exact Int.le_of_lt hl
      · exact ih h
    · rename_i hl
      rcases List.mem_cons.mp h with rfl | h
      · exact Int.le_refl _
      · exact Int.le_trans (Int.not_lt.mp hl) (ih h)
theorem call_max' (hc : X.calm = true) : CallR X (.builtin "max") (rDn X.K dMax) := weakCall ((cr_max hc).or (call_max2 hc)) fun xs H Q ⟨G, ds, c, s, h, hm, q⟩ => by
  unfold dMax at hm
  split at hm
  · obtain ⟨ns, e, hm⟩ := Option.bind_eq_some_iff.mp hm
    split at hm
    · cases hm
    · rename_i hl
      cases hm
      obtain ⟨v, rfl, h1⟩ := dp1 h
      cases h1 with
      | lst hs ha =>
        have ex := ints_dp ha e
        subst ex
        refine .inl ⟨_, ns, rfl, s.seq hs, by omega, fun m hmem hall => ?_⟩
        have ne : ns ≠ [] := fun z => hl (by rw [z]; rfl)
        have em : m = maxI ns := Int.le_antisymm (maxI_le hmem) (hall _ (maxI_mem ne))
        subst em
        exact q _ G H (.refl s) (.int _)
  · cases hm
    obtain ⟨v, w, rfl, h1, h2⟩ := dp2 h
    cases h1; cases h2
    exact .inr ⟨_, _, rfl, q _ G H (.refl s) (.int _)⟩
  · cases hm
theorem call_min' (hc : X.calm = true) : CallR X (.builtin "min") (rDn X.K dMin) := weakCall ((cr_min hc).or (call_min2 hc)) fun xs H Q ⟨G, ds, c, s, h, hm, q⟩ => by
  unfold dMin at hm
  split at hm
  · obtain ⟨ns, e, hm⟩ := Option.bind_eq_some_iff.mp hm
    split at hm
    · cases hm
    · rename_i hl
      cases hm
      obtain ⟨v, rfl, h1⟩ := dp1 h
      cases h1 with
      | lst hs ha =>
        have ex := ints_dp ha e
        subst ex
        refine .inl ⟨_, ns, rfl, s.seq hs, by omega, fun m hmem hall => ?_⟩
        have ne : ns ≠ [] := fun z => hl (by rw [z]; rfl)
        have em : m = minI ns := Int.le_antisymm (hall _ (minI_mem ne)) (minI_le hmem)
        subst em
        exact q _ G H (.refl s) (.int _)
  · cases hm
    obtain ⟨v, w, rfl, h1, h2⟩ := dp2 h
    cases h1; cases h2
    exact .inr ⟨_, _, rfl, q _ G H (.refl s) (.int _)⟩
  · cases hm
theorem call_all' (hc : X.calm = true) : CallR X (.builtin "all") (rDn X.K dAll) := weakCall (cr_all hc) fun xs H Q ⟨G, ds, c, s, h, hm, q⟩ => by
  unfold dAll at hm
  split at hm
  · obtain ⟨ns, e, rfl⟩ := Option.map_eq_some_iff.mp hm
    obtain ⟨v, rfl, h1⟩ := dp1 h
    cases h1 with
    | lst hs ha =>
      have ex := bools_dp ha e
      subst ex
      exact ⟨_, ns, rfl, s.seq hs, q _ G H (.refl s) (.bl _)⟩
  · cases hm
theorem call_any' (hc : X.calm = true) : CallR X (.builtin "any") (rDn X.K dAny) := weakCall (cr_any hc) fun xs H Q ⟨G, ds, c, s, h, hm, q⟩ => by
  unfold dAny at hm
  split at hm
  · obtain ⟨ns, e, rfl⟩ := Option.map_eq_some_iff.mp hm
    obtain ⟨v, rfl, h1⟩ := dp1 h
    cases h1 with
    | lst hs ha =>
      have ex := bools_dp ha e
      subst ex
      exact ⟨_, ns, rfl, s.seq hs, q _ G H (.refl s) (.bl _)⟩
  · cases hm
theorem call_tuple' : CallR X (.type "tuple") (rDn X.K dTuple) := weakCall call_tuple_of fun xs H Q ⟨G, ds, c, s, h, hm, q⟩ => by
  unfold dTuple at hm
  split at hm <;> cases hm
  · obtain ⟨v, rfl, h1⟩ := dp1 h
    cases h1 with
    | lst hs ha => exact ⟨_, _, rfl, .inl ⟨s.seq hs, fun ad hn => q _ _ _ (.new s hn) (St.new s hn ha)⟩⟩
  · obtain ⟨v, rfl, h1⟩ := dp1 h
    cases h1 with
    | tup hs ha => exact ⟨_, _, rfl, .inr ⟨sqT_mono s hs, q _ G H (.refl s) (.tup hs ha)⟩⟩
theorem call_list' : CallR X (.type "list") (rFn X.K fList) := weakCall call_list_of fun xs H Q ⟨G, ds, c, s, h, hm, q⟩ => by
  unfold fList at hm
  split at hm <;> cases hm
  · obtain ⟨v, rfl, h1⟩ := dp1 h
    cases h1 with
    | lst hs ha => exact ⟨_, _, rfl, .inl (s.seq hs), fun ad hn => q ad _ G _ (.aside s hn) hn upd_same (s.free hn) ha⟩
  · obtain ⟨v, rfl, h1⟩ := dp1 h
    cases h1 with
    | tup hs ha => exact ⟨_, _, rfl, .inr (sqT_mono s hs), fun ad hn => q ad _ G _ (.aside s hn) hn upd_same (s.free hn) ha⟩
theorem call_str' : CallR X (.type "str") (rDn X.K dStr) := weakCall call_str_int fun xs H Q ⟨G, ds, c, s, h, hm, q⟩ => by
  unfold dStr at hm
  split at hm
  · split at hm
    · rename_i hz
      cases hm
      obtain ⟨v, rfl, h1⟩ := dp1 h
      cases h1
      exact ⟨_, rfl, hz, q _ G H (.refl s) (.str _)⟩
    · cases hm
  · cases hm
theorem mt_join' : MtR X "str.join" (rDm X.K dJoin) := weakMt mt_join fun x xs H Q ⟨G, a, ds, c, s, h1, h2, hm, q⟩ => by
  unfold dJoin at hm
  split at hm
  · obtain ⟨ys, e, hm⟩ := Option.bind_eq_some_iff.mp hm
    split at hm
    · rename_i hz
      cases hm
      obtain ⟨v, rfl, h3⟩ := dp1 h2
      cases h1
      cases h3 with
      | lst hs ha =>
        have ex := strs_dp ha e
        subst ex
        exact ⟨_, _, ys, rfl, rfl, .inl (s.seq hs), hz, q _ G H (.refl s) (.str _)⟩
    · cases hm
  · cases hm
theorem ty_join {K : PySem.W.Frag} (G H : Hp) (a : D) (ds : List D) (c : D) (v : V) (s : Same G H) (h : dJoin a ds = some c) (d : Dp K G v a) : tyV K "str" v H := by
  unfold dJoin at h
  split at h
  · exact tyv_str d
  · cases h
/-- isinstance(e, T) -/
def eIsi (T : String) (m : SE) : SE := fun e => (m e).bind fun q => (kitB (clsD q.1) T).map fun b => (.bool b, q.2)
theorem cls_ok {G H : Hp} {x : V} {d : D} (s : Same G H) (h : Dp X.K G x d) : TyX X.K H x (.type (clsD d)) := by
  cases h with
  | non => exact .base .non
  | bl b => exact .base (.bl b)
  | int i => exact .base (.int i)
  | str z => exact .base (.str z)
  | lst hs ha =>
    rcases s.seq hs with (h | ⟨o, h⟩) | ⟨o, its, n, h, hc, _⟩
    · exact .base (.lst h)
    · exact .base (.frz h)
    · exact .kList h hc
  | tup hs ha =>
    rcases sqT_mono s hs with (h | ⟨o, h⟩) | ⟨o, its, n, h, hc, _⟩
    · exact .base (.tup h)
    · exact .fTuple h
    · exact .kTuple h hc
theorem de_isi {T : String} {nT : Str} (hg : Gl X "isinstance") (hm : X.mg "isinstance" = none) (hgT : Gl X nT) (hmT : X.mg nT = none) (hvT : bootBuiltins nT = some (.type T)) (hb : bootBuiltins "isinstance" = some (.builtin "isinstance"))
    (hnT : nT ≠ "__name__") (hdT : (nT == ("__debug__" : Str)) = false) (ha : DE X x ma) (he : starEach [x, .Name nT p2] X.env = (false, eval x X.env) :: starEach [.Name nT p2] X.env := by rfl) (he2 : starEach [.Name nT p2] X.env = (false, eval (.Name nT p2) X.env) :: starEach [] X.env := by rfl) (hpl : (backTo pos (starEach [.Name nT p2] X.env)).any (·.1) = false := by rfl) :
    DE X (.Call (.Name "isinstance" p) [x, .Name nT p2] [] pos) (eIsi T ma) :=
  weakE (pe_callB call_isi hg hm hb (pa_cons ha (pa_cons (pe_bltn (v := .ty T) hgT hmT hvT rfl hnT hdT) pa_nil he2) he) (by decide) (by decide) he hpl) fun σ H Q ⟨G, e, d, e', r, hm, q⟩ => by
    obtain ⟨⟨a, e1⟩, h1, hm⟩ := Option.bind_eq_some_iff.mp hm
    obtain ⟨b, h2, hm⟩ := Option.map_eq_some_iff.mp hm
    cases hm
    exact ⟨G, e, a, e1, r, h1, fun v G1 H1 r1 f1 d1 => ⟨v, .ty T, _, _, b, rfl, .ty T, cls_ok r1.gh d1, kit_ty h2, q _ G1 H1 r1 f1 (.bl b)⟩⟩
/-- repr -/
theorem call_repr' (hG : X.A.guards = some []) (hu : X.A.units + 66 < cLine) : CallR X (.builtin "repr") (rDn X.K dRepr) := by
  intro pins s σ H xs us Q I rx h
  obtain ⟨G, ds, c, sg, hd, hm, q⟩ := h
  unfold dRepr at hm
  split at hm
  · rename_i d
    split at hm
    · rename_i hz
      obtain ⟨z1, z2, z3, z4⟩ := hz
      obtain ⟨v, rfl, h1⟩ := dp1 hd
      obtain ⟨u, rfl, ru⟩ := vals1 rx
      have h1' := dp_mono sg _ _ h1
      obtain ⟨as, rd⟩ := Dp.reads I d v u h1' ru
      have isref : (∃ a, u = Value.ref a) ∧ c = .str d.shown := by
        cases h1' with
        | lst hs ha => cases ru; cases hm; exact ⟨⟨_, rfl⟩, rfl⟩
        | tup hs ha => cases ru; cases hm; exact ⟨⟨_, rfl⟩, rfl⟩
        | _ => cases hm
      obtain ⟨⟨a, rfl⟩, rfl⟩ := isref
      refine repr_of_reads' rd z1 (PyData.noDict_hsm z2) hG (by omega) (fun b o e => e) (fun h' t tk keep => ?_) z4
      exact ⟨.str d.shown, H, I.kept (h' := h') (t' := tk) keep, ⟨_, rfl⟩, q _ G H (.refl sg) (.str _)⟩
    · cases hm
  · cases hm
end
end PL

set_option maxHeartbeats 4000000
/-! The pure layer, part j: enumerate of a text, pairs of names, ranges as lists. -/
namespace PL
open PySem PySem.Spec PyProof.Rows L2

/-! ### enumerate of a text -/
def ItES (x : Str) : It := ⟨fun i _ => i < x.cps.size, fun i H v H' => ∃ T c, v = .ref T ∧ H T = none ∧ x.cps[i]? = some c ∧ H' = upd H T (.tup [.int (i : Nat), .str ⟨#[c]⟩]), fun i _ => x.cps.size ≤ i⟩
theorem turn_enumS {P : Program} {w : World} {K : PySem.W.Frag} {elts : List Expr} {kk : Nat} {tpos : Pos} (e it : Addr) (x : Str) (t : Tok) (ty : String) (hty : ty = "str_ascii_iterator" ∨ ty = "str_iterator") :
    Turn P w K (.Tuple elts kk tpos) (ItES x) [e, it] e (fun i h => (∃ old, IsEnum h e it ((min i x.cps.size : Nat) : Int) old) ∧ h.IsStrIter it ty x t (min i x.cps.size) ∧ e ≠ it) where
  mem := by simp
  obj := fun i h st b hb => by
    obtain ⟨⟨old, he⟩, ⟨o, ho, hc, hd⟩, _⟩ := st
    rcases (show b = e ∨ b = it by simpa using hb) with z | z
    · rw [z]; exact ⟨_, he, fun v q => nomatch q⟩
    · rw [z]; exact ⟨o, ho, fun v q => by rw [hd] at q; cases q⟩
  keep := fun i h h' st k => by
    obtain ⟨⟨old, he⟩, ⟨o, ho, r⟩, hne⟩ := st
    exact ⟨⟨old, k e (by simp) _ he⟩, ⟨o, k it (by simp) o ho, r⟩, hne⟩
  item := by
    intro X hP hw hK hc i pins s σ H E I hf st hg
    subst hP hw hK
    obtain ⟨⟨old, he⟩, hit, hne⟩ := st
    have hg : i < x.cps.size := hg
    rw [Nat.min_eq_left (Nat.le_of_lt hg)] at he hit
    have hel : e < s.heap.objs.size := Heap.lt_size he
    have hil : it < s.heap.objs.size := by obtain ⟨_, q, _⟩ := hit; exact Heap.lt_size q
    have hh : X.A.in1.handled = none := I.ok.hd hc
    have Dr : Draws X.prog X.w X.A.in1 it [it] x.cps.size (SignAt x) (fun i h => h.IsStrIter it ty x t i) := by
      rcases hty with z | z
      · rw [z]; exact Draws.strAscii hh it x t
      · rw [z]; exact Draws.strWide hh it x t
    refine wpAny_pyNext_enum_itemD Dr he hit hg hne (by simpa using hne) fun y h' tk hy ho hit' hT hsz hk => ?_
    obtain ⟨c, u, hcx, rfl⟩ := hy
    refine ⟨_, rfl, wpAny_letOwnedTupleGo_enum (s := { s with heap := h', toks := tk + 1 }) ho fun h'' he' sb => ?_⟩
    have hT2 : h''.get? s.heap.objs.size = some { cls := .type "tuple", data := .seq #[.int i tk, .str ⟨#[c]⟩ u] } := (sb.2 _ (Nat.ne_of_gt hel)).trans hT
    have new : ObjOk X.prog X.w (upd H s.heap.objs.size (.tup [.int (i : Nat), .str ⟨#[c]⟩])) h'' s.heap.objs.size (.tup [.int (i : Nat), .str ⟨#[c]⟩]) :=
      ⟨by show 2 ≤ sizeLine; decide, [.int i tk, .str ⟨#[c]⟩ u], .cons ⟨_, rfl⟩ (.cons ⟨_, rfl⟩ .nil), ⟨_, hT2, rfl, _, rfl⟩⟩
    have I1 : L2.Inv X pins σ (upd H s.heap.objs.size (.tup [.int (i : Nat), .str ⟨#[c]⟩])) { s with heap := h'', toks := tk + 1 } :=
      I.turnedNew (ch := [e, it]) (fun b ob hb q => (sb.2 b (fun z => hb (by simp [z]))).trans (hk b ob (fun z => hb (by simp [z])) (fun z => hb (by simp [z])) q)) hf (Nat.le_refl _) new
    have mi : min (i + 1) x.cps.size = i + 1 := Nat.min_eq_left hg
    refine ⟨.ref s.heap.objs.size, _, I1, rfl, ⟨_, c, rfl, I.hok.fresh (Nat.le_refl _), hcx, rfl⟩, ⟨⟨.str ⟨#[c]⟩ u, ?_⟩, ?_, hne⟩, fun b hb => ?_⟩
    · rw [mi]
      have e1 : ((i + 1 : Nat) : Int) = (i : Int) + 1 := by omega
      rw [e1]; exact he'
    · rw [mi]
      obtain ⟨o, ho2, r⟩ := hit'
      exact ⟨o, (sb.2 it (Ne.symm hne)).trans ho2, r⟩
    · have hb' : b < s.heap.objs.size := by
        rcases (show b = e ∨ b = it by simpa using hb) with z | z
        · rw [z]; exact hel
        · rw [z]; exact hil
      rw [upd_ne (Nat.ne_of_lt hb')]
      exact (hf b hb).1
  done := by
    intro X hP hw hK hc i pins s σ H E I hf st hg
    subst hP hw hK
    obtain ⟨⟨old, he⟩, hit, hne⟩ := st
    have hg : x.cps.size ≤ i := hg
    rw [Nat.min_eq_right hg] at he hit
    obtain ⟨f0, f1, f2, f3, f4, f5⟩ := hf it (by simp)
    have hh : X.A.in1.handled = none := I.ok.hd hc
    have Dr : Draws X.prog X.w X.A.in1 it [it] x.cps.size (SignAt x) (fun i h => h.IsStrIter it ty x t i) := by
      rcases hty with z | z
      · rw [z]; exact Draws.strAscii hh it x t
      · rw [z]; exact Draws.strWide hh it x t
    exact wpAny_pyNext_enum_endD Dr he hit fun h' eb => ⟨rfl, I.turned (t' := s.toks) (fun b o hb q => eb b o hb q) f0 f1 f3 f4 f5⟩
  self := fun A i s Q E st h => by
    obtain ⟨⟨_, he⟩, _⟩ := st
    exact wpAny_pyIter_enum he h
def iEnumS (ta : TA) : TI := fun σ H Rr => ta σ H fun vs H1 => ∃ z, vs = [.str z] ∧ Rr (ItES z) H1
theorem pi_enumS {X : Cx} {e : Expr} {ta : TA} {p pos tpos : Pos} {elts : List Expr} {kk : Nat} (hg : Gl X "enumerate") (hm : X.mg "enumerate" = none) (ha : PA X [e] ta) (hs : starEach [e] X.env = [(false, eval e X.env)] := by rfl) :
    PI X (.Tuple elts kk tpos) (.Call (.Name "enumerate" p) [e] [] pos) (iEnumS ta) := by
  constructor
  intro pins s σ H Rr I h
  refine Call_ (ld_blt I hg hm boot_enumerate (PyProof.Rows.callWith_type1 ?_ hs rfl))
  refine thn (ha.run pos pins s σ H _ I h) ?_
  rintro us s1 ⟨vs, H1, I1, r1, z, rfl, q⟩
  obtain ⟨u, rfl, ru⟩ := vals1 r1
  obtain ⟨t, rfl⟩ := ru
  refine call_enumerate_str fun h' he hit hsz hk => wpAny_pyIter_enum he ?_
  have I2 : L2.Inv X pins σ H1 { s1 with heap := h' } := I1.kept (t' := s1.toks) hk
  have hty : strIterType z = "str_ascii_iterator" ∨ strIterType z = "str_iterator" := by
    unfold strIterType
    split
    · exact .inl rfl
    · exact .inr rfl
  refine ⟨s1.heap.objs.size + 1, [s1.heap.objs.size + 1, s1.heap.objs.size], _, _, H1, rfl, I2, turn_enumS (s1.heap.objs.size + 1) s1.heap.objs.size z t _ hty, ⟨⟨.none, by rw [Nat.zero_min]; exact he⟩, by rw [Nat.zero_min]; exact hit, Nat.succ_ne_self _⟩, fun b hb => ?_, q⟩
  have hle : s1.heap.objs.size ≤ b := by
    rcases (show b = s1.heap.objs.size + 1 ∨ b = s1.heap.objs.size by simpa using hb) with z | z
    · rw [z]; exact Nat.le_add_right _ _
    · rw [z]; exact Nat.le_refl _
  exact I1.fpOk hle (I1.hok.fresh hle)
theorem itd_enumS {K : PySem.W.Frag} {G : Hp} {z : Str} : ItD K (ItES z) G (enD (chD z)) := fun i G1 H s1 s2 => by
  refine ⟨fun hi => ?_, fun d hi => ?_⟩
  · rw [enD_get, chD_get] at hi
    show z.cps.size ≤ i
    cases q : z.cps[i]? with
    | none => exact Array.getElem?_eq_none_iff.mp q
    | some c => rw [q] at hi; cases hi
  · rw [enD_get, chD_get] at hi
    cases q : z.cps[i]? with
    | none => rw [q] at hi; cases hi
    | some c =>
      rw [q] at hi
      cases hi
      refine ⟨(Array.getElem?_eq_some_iff.mp q).1, fun x H' ⟨T, c', e1, e2, e3, e4⟩ => ?_⟩
      rw [q] at e3
      cases e3
      subst e1 e4
      obtain ⟨g, dd⟩ := pair_new (K := K) s2 e2 (.int (i : Nat)) (.str ⟨#[c]⟩)
      exact ⟨_, g, dd⟩
def iEnS (m : SA) : SF := fun e => (m e).bind fun p => match p.1 with
  | [.str z] => some (enD (chD z), p.2)
  | _ => none
section
variable {X : Cx} {x y c tg : Expr} {es : List Expr} {ma mb mc : SE} {pos p p2 : Pos}
theorem di_enumS {m : SA} {elts : List Expr} {kk : Nat} {tpos : Pos} (hg : Gl X "enumerate") (hm : X.mg "enumerate" = none) (ha : DA X [x] m) (hs : starEach [x] X.env = [(false, eval x X.env)] := by rfl) :
    DI X (.Tuple elts kk tpos) (.Call (.Name "enumerate" p) [x] [] pos) (iEnS m) :=
  weakI (pi_enumS hg hm ha hs) fun σ H Rr ⟨G, e, ds, e', r, hm, q⟩ => by
    obtain ⟨⟨a, e1⟩, h1, hm⟩ := Option.bind_eq_some_iff.mp hm
    refine ⟨G, e, a, e1, r, h1, fun v G1 H1 r1 f1 d1 => ?_⟩
    dsimp only at hm
    split at hm
    · cases hm
      obtain ⟨w, rfl, d2⟩ := dp1 d1
      cases d2
      exact ⟨_, rfl, q _ G1 H1 r1 f1 itd_enumS⟩
    · cases hm
/-! ### a, b = x, y -/
def sPar (i j : Nat) (m : SA) : SS := fun e => (m e).bind fun p => match p.1 with
  | [a, b] => (setv p.2 i a).bind fun e1 => (setv e1 j b).map .nx
  | _ => none
def sPar3 (i j l : Nat) (m : SA) : SS := fun e => (m e).bind fun p => match p.1 with
  | [a, b, c] => (setv p.2 i a).bind fun e1 => (setv e1 j b).bind fun e2 => (setv e2 l c).map .nx
  | _ => none
theorem ds_par (i j : Nat) {n1 n2 : Str} {m : SA} {px py pt : Pos} {kt k2 pt2} (hc : X.calm = true) (hN : X.N.Nodup) (hi : X.N[i]? = some n1) (hj : X.N[j]? = some n2) (hij : i ≠ j)
    (hx : X.env.scope.names.lookup n1 = some .local) (hy : X.env.scope.names.lookup n2 = some .local) (ha : DA X [x, y] m)
    (hw : swappedStores [.Tuple [.Name n1 px, .Name n2 py] kt pt] (.Tuple [x, y] k2 pt2) X.env = pure (some [n1, n2]))
    (hs : swapsWithSole [.Tuple [.Name n1 px, .Name n2 py] kt pt] (.Tuple [x, y] k2 pt2) pos.line X.env = pure false := by rfl) :
    DS X (.Assign [.Tuple [.Name n1 px, .Name n2 py] kt pt] (.Tuple [x, y] k2 pt2) pos) (sPar i j m) :=
  weakS (ps_par hc hN hi hj hij hx hy ha hw hs) fun Dn σ H ⟨G, e, o, r, hm, q⟩ => by
    obtain ⟨⟨a, e1⟩, h1, hm⟩ := Option.bind_eq_some_iff.mp hm
    refine ⟨G, e, a, e1, r, h1, fun vs G1 H1 r1 f1 d1 => ?_⟩
    dsimp only at hm
    split at hm
    · obtain ⟨e2, h2, hm⟩ := Option.bind_eq_some_iff.mp hm
      obtain ⟨e3, h3, hm⟩ := Option.map_eq_some_iff.mp hm
      cases hm
      obtain ⟨v, w, rfl, dv, dw⟩ := dp2 d1
      obtain ⟨r2, f2⟩ := put_v r1 dv h2
      obtain ⟨r3, f3⟩ := put_v r2 dw h3
      exact ⟨v, w, rfl, q _ G1 H1 r3 ((f1.trans f2).trans f3)⟩
    · cases hm
theorem ds_par3 (i j l : Nat) {n1 n2 n3 : Str} {m : SA} {px py pz pt : Pos} {kt k2 pt2} (hc : X.calm = true) (hN : X.N.Nodup) (hi : X.N[i]? = some n1) (hj : X.N[j]? = some n2) (hl : X.N[l]? = some n3) (hij : i ≠ j) (hil : i ≠ l) (hjl : j ≠ l)
    (hx : X.env.scope.names.lookup n1 = some .local) (hy : X.env.scope.names.lookup n2 = some .local) (hz : X.env.scope.names.lookup n3 = some .local) (ha : DA X [x, y, c] m)
    (hw : swappedStores [.Tuple [.Name n1 px, .Name n2 py, .Name n3 pz] kt pt] (.Tuple [x, y, c] k2 pt2) X.env = pure (some [n1, n2, n3]))
    (hs : swapsWithSole [.Tuple [.Name n1 px, .Name n2 py, .Name n3 pz] kt pt] (.Tuple [x, y, c] k2 pt2) pos.line X.env = pure false := by rfl) :
    DS X (.Assign [.Tuple [.Name n1 px, .Name n2 py, .Name n3 pz] kt pt] (.Tuple [x, y, c] k2 pt2) pos) (sPar3 i j l m) :=
  weakS (ps_par3 hc hN hi hj hl hij hil hjl hx hy hz ha hw hs) fun Dn σ H ⟨G, e, o, r, hm, q⟩ => by
    obtain ⟨⟨a, e1⟩, h1, hm⟩ := Option.bind_eq_some_iff.mp hm
    refine ⟨G, e, a, e1, r, h1, fun vs G1 H1 r1 f1 d1 => ?_⟩
    dsimp only at hm
    split at hm
    · obtain ⟨e2, h2, hm⟩ := Option.bind_eq_some_iff.mp hm
      obtain ⟨e3, h3, hm⟩ := Option.bind_eq_some_iff.mp hm
      obtain ⟨e4, h4, hm⟩ := Option.map_eq_some_iff.mp hm
      cases hm
      cases d1 with
      | cons du d1 =>
        obtain ⟨v, w, rfl, dv, dw⟩ := dp2 d1
        obtain ⟨r2, f2⟩ := put_v r1 du h2
        obtain ⟨r3, f3⟩ := put_v r2 dv h3
        obtain ⟨r4, f4⟩ := put_v r3 dw h4
        exact ⟨_, v, w, rfl, q _ G1 H1 r4 (((f1.trans f2).trans f3).trans f4)⟩
    · cases hm
end
end PL

set_option maxHeartbeats 4000000
/-! The pure layer, part k: the words that the printed derivations use; the head's facts. -/
namespace PL
open PySem PySem.Spec PyProof.Rows L2

/-- a name that is visible -/
structure NmOk (N : List Str) (sc : Scope) (i : Nat) (nm : Str) : Prop where
  hN : N[i]? = some nm
  vis : Vis sc nm
  nd : (nm == ("__debug__" : Str)) = false
  nc : (nm == ("__classdict__" : Str)) = false
/-- a name that is stored -/
structure LcOk (N : List Str) (sc : Scope) (i : Nat) (nm : Str) : Prop where
  hN : N[i]? = some nm
  loc : sc.names.lookup nm = some .local ∨ sc.names.lookup nm = some .cell
  nd : (nm == ("__debug__" : Str)) = false
  nc : (nm == ("__classdict__" : Str)) = false
def nmB (N : List Str) (sc : Scope) (i : Nat) (nm : Str) : Bool := decide (N[i]? = some nm) && ((match sc.names.lookup nm with
  | some .local => true
  | some .cell => true
  | some .free => true
  | _ => false) && (!(nm == ("__debug__" : Str)) && !(nm == ("__classdict__" : Str))))
theorem nmB_ok {N : List Str} {sc : Scope} {i : Nat} {nm : Str} (h : nmB N sc i nm = true) : NmOk N sc i nm := by
  unfold nmB at h
  simp only [Bool.and_eq_true, decide_eq_true_eq, Bool.not_eq_true'] at h
  obtain ⟨h1, h2, h3, h4⟩ := h
  refine ⟨h1, ?_, h3, h4⟩
  unfold Vis
  split at h2 <;> first | (cases h2; done) | skip
  · rename_i h; exact .inl h
  · rename_i h; exact .inr (.inl h)
  · rename_i h; exact .inr (.inr h)
def lcB (N : List Str) (sc : Scope) (i : Nat) (nm : Str) : Bool := decide (N[i]? = some nm) && ((match sc.names.lookup nm with
  | some .local => true
  | some .cell => true
  | _ => false) && (!(nm == ("__debug__" : Str)) && !(nm == ("__classdict__" : Str))))
theorem lcB_ok {N : List Str} {sc : Scope} {i : Nat} {nm : Str} (h : lcB N sc i nm = true) : LcOk N sc i nm := by
  unfold lcB at h
  simp only [Bool.and_eq_true, decide_eq_true_eq, Bool.not_eq_true'] at h
  obtain ⟨h1, h2, h3, h4⟩ := h
  refine ⟨h1, ?_, h3, h4⟩
  split at h2 <;> first | (cases h2; done) | skip
  · rename_i h; exact .inl h
  · rename_i h; exact .inr h
theorem LcOk.nm {N : List Str} {sc : Scope} {i : Nat} {nm : Str} (h : LcOk N sc i nm) : NmOk N sc i nm :=
  ⟨h.hN, h.loc.elim .inl fun z => .inr (.inl z), h.nd, h.nc⟩
theorem hu64 {A : Around} {k : Nat} (hr : Room k A) : A.units + 64 < cLine := hr.units
theorem hu65 {A : Around} {k : Nat} (hr : Room k A) : A.units + 65 < cLine := by have := hr.un; omega
theorem hu66 {A : Around} {k : Nat} (hr : Room k A) : A.units + 66 < cLine := by have := hr.un; omega
section
variable {X : Cx} {x y c tg : Expr} {es : List Expr} {ma mb mc : SE} {pos p p2 : Pos} {nm : Str} {i : Nat}
theorem d_nm (h : NmOk X.N X.env.scope i nm) : DE X (.Name nm pos) (eNm i) := de_nm i h.hN h.vis h.nd h.nc
theorem d_ixo (h : NmOk X.N X.env.scope i nm) (hb : DE X y mb) (hs : PlainIx y) : DE X (.Subscript (.Name nm p) y pos) (eIxo i mb) := de_ixo i h.hN h.vis h.nd h.nc hb hs
theorem d_leno (h : NmOk X.N X.env.scope i nm) (hg : Gl X "len") (hm : X.mg "len" = none) : DE X (.Call (.Name "len" p) [.Name nm p2] [] pos) (eLeno i) := de_leno (nl := nm) i h.hN h.vis h.nd h.nc hg hm
theorem d_str {u : Value} {z : Str} {t : Tok} (hg : Gl X nm) (hm : X.mg nm = some (.str z t)) (hd : (nm == ("__debug__" : Str)) = false) : DE X (.Name nm pos) (eC (.str z)) := de_c (pe_glob (v := .str z) hg hm ⟨t, rfl⟩ hd) fun _ => .str z
theorem d_gint {z : Int} {t : Tok} (hg : Gl X nm) (hm : X.mg nm = some (.int z t)) (hd : (nm == ("__debug__" : Str)) = false) : DE X (.Name nm pos) (eC (.int z)) := de_c (pe_glob (v := .int z) hg hm ⟨t, rfl⟩ hd) fun _ => .int z
theorem d_gref {a : Addr} {d : D} (hg : Gl X nm) (hm : X.mg nm = some (.ref a)) (hd : (nm == ("__debug__" : Str)) = false) (h : ∀ G, Dp X.K G (.ref a) d) : DE X (.Name nm pos) (eC d) := de_c (pe_glob (v := .ref a) hg hm rfl hd) h
theorem d_set (hN : X.N.Nodup) (h : LcOk X.N X.env.scope i nm) (hf : ∀ z, X.fn z = true) (he : DE X x ma) (hs : swapsWith x (some (.Name nm p)) pos.line X.env = pure false := by rfl) : DS X (.Assign [.Name nm p] x pos) (sSet i ma) := ds_set i hN h.hN h.loc (.inl (hf _)) he hs
theorem d_own {mf : SF} (hN : X.N.Nodup) (h : LcOk X.N X.env.scope i nm) (hf : ∀ z, X.fn z = true) (he : DF X x mf) (hs : swapsWith x (some (.Name nm p)) pos.line X.env = pure false := by rfl) : DS X (.Assign [.Name nm p] x pos) (sOwn i mf) := ds_own i hN h.hN h.loc (.inl (hf _)) he hs
theorem d_gnm (hN : X.N.Nodup) (h : LcOk X.N X.env.scope i nm) (hf : ∀ z, X.fn z = true) : DG X (.Name nm p) (gNm i) := dg_nm i hN h.hN h.loc (.inl (hf _))
theorem d_gcnm {vs : List Nat} (hN : X.N.Nodup) (h : LcOk X.N X.env.scope i nm) (hl : X.env.scope.names.lookup nm = some .local) (hm : i ∈ vs) : DGc X (.Name nm p) vs (gNm i) := dgc_nm i hN h.hN h.loc (.inr hl) hm
theorem d_app {apos cpos : Pos} (h : NmOk X.N X.env.scope i nm) (he : DE X x ma)
    (hfew : ((backTo cpos (starEach [x] X.env)).all (fun z => !z.1) && (backToKw cpos (keywordEach [] X.env)).all (fun z => z.1.isSome)
      && decide (([x]).length + ([] : List Keyword).length + (if ([] : List Keyword).isEmpty then 0 else 1) < 30)) = true := by rfl)
    (hline : (apos.endLine == cpos.line) = true := by rfl) (hs : starEach [x] X.env = (false, eval x X.env) :: starEach [] X.env := by rfl) (hsw : swapsWith (.Call (.Attribute (.Name nm p) "append" apos) [x] [] cpos) none pos.line X.env = pure false := by rfl) :
    DS X (.Expr (.Call (.Attribute (.Name nm p) "append" apos) [x] [] cpos) pos) (sApp i ma) := ds_app i h.hN h.vis h.nd h.nc he hfew hline hs hsw
theorem d_put {spos : Pos} (h : NmOk X.N X.env.scope i nm) (hk : DE X y mb) (he : DE X x ma)
    (ha : ∀ v, assign (.Subscript (.Name nm p) y spos) X.env v = (do
      let ov ← holding [v] (eval (.Name nm p) X.env)
      let iv ← holding [v, ov] (eval y X.env)
      standAt spos
      holding [v, ov, iv] (setItem ov iv v)
      release [v, ov, iv] []) := by intro _; rfl) (hs : swapsWithSole [.Subscript (.Name nm p) y spos] x pos.line X.env = pure false := by rfl) (hw : swappedStores [.Subscript (.Name nm p) y spos] x X.env = pure none := by rfl)
    (h1 : (assignEach [.Subscript (.Name nm p) y spos] X.env).map (·.2) = [assign (.Subscript (.Name nm p) y spos) X.env] := by rfl) : DS X (.Assign [.Subscript (.Name nm p) y spos] x pos) (sPut i mb ma) := ds_put i h.hN h.vis h.nd h.nc hk he ha hs hw h1
theorem d_pop {apos cpos : Pos} (h : NmOk X.N X.env.scope i nm) (hline : (apos.endLine == cpos.line) = true := by rfl) (hsw : swapsWith (.Call (.Attribute (.Name nm p) "pop" apos) [] [] cpos) none pos.line X.env = pure false := by rfl) :
    DS X (.Expr (.Call (.Attribute (.Name nm p) "pop" apos) [] [] cpos) pos) (sPop i) := ds_pop i h.hN h.vis h.nd h.nc hline hsw
theorem d_callH {f : Addr} {fd : FuncData} {ps : List Str} {k n : Nat} {ni : Str} {m : List D → List D → Option (D × List D)} {ma : SA} (F : FnG X.prog X.w X.K X.mg X.base k f fd ps (spH X.K n m)) (hr : Room k X.A) (hG : X.A.guards = some []) (hg : Gl X nm) (hm : X.mg nm = some (.ref f)) (hk : PySem.W.keepIn X.K (.ref f) = true) (hb : Binds X.K fd ps [])
    (h : NmOk X.N X.env.scope i ni) (ha : DA X es ma) (hlen : ∀ e ds e', ma e = some (ds, e') → ds.length + 1 = n) (hdb : (nm == ("__debug__" : Str)) = false) (he : starEach (.Name ni p2 :: es) X.env = (false, eval (.Name ni p2) X.env) :: starEach es X.env := by rfl) (hpl : (backTo pos (starEach es X.env)).any (·.1) = false := by rfl) :
    DE X (.Call (.Name nm p) (.Name ni p2 :: es) [] pos) (eCallH i m ma) := de_callH i F hr hG hg hm hk hb h.hN h.vis h.nd h.nc ha hlen hdb he hpl
/-- a list, a tuple, a text -/
def iAny (m : SE) : SF := fun e => (m e).bind fun p => match p.1 with
  | .list ds => some (ds, p.2)
  | .tuple ds => some (ds, p.2)
  | .str z => some (chD z, p.2)
  | _ => none
theorem di_any (h : DE X x ma) : DI X tg x (iAny ma) := ⟨fun pins s σ H Rr I ⟨G, e, ds, e', r, hm, q⟩ => by
  obtain ⟨⟨a, e1⟩, h1, hm⟩ := Option.bind_eq_some_iff.mp hm
  cases a with
  | list es =>
    refine (di_list h).run pins s σ H Rr I ⟨G, e, ds, e', r, ?_, q⟩
    unfold iLst
    rw [h1]
    exact hm
  | tuple es =>
    refine (di_tup h).run pins s σ H Rr I ⟨G, e, ds, e', r, ?_, q⟩
    unfold iTpl
    rw [h1]
    exact hm
  | str z =>
    refine (di_str h).run pins s σ H Rr I ⟨G, e, ds, e', r, ?_, q⟩
    unfold iTxt
    rw [h1]
    exact hm
  | _ => cases hm⟩
def iEnA (m : SA) : SF := fun e => (m e).bind fun p => match p.1 with
  | [.list ds] => some (enD ds, p.2)
  | [.str z] => some (enD (chD z), p.2)
  | _ => none
theorem di_enA {m : SA} {elts : List Expr} {kk : Nat} {tpos : Pos} (hg : Gl X "enumerate") (hm : X.mg "enumerate" = none) (ha : DA X [x] m) (hs : starEach [x] X.env = [(false, eval x X.env)] := by rfl) :
    DI X (.Tuple elts kk tpos) (.Call (.Name "enumerate" p) [x] [] pos) (iEnA m) := ⟨fun pins s σ H Rr I ⟨G, e, ds, e', r, h0, q⟩ => by
  obtain ⟨⟨a, e1⟩, h1, h0⟩ := Option.bind_eq_some_iff.mp h0
  dsimp only at h0
  split at h0
  · refine (di_enum hg hm ha hs).run pins s σ H Rr I ⟨G, e, ds, e', r, ?_, q⟩
    unfold iEn
    rw [h1]
    exact h0
  · refine (di_enumS hg hm ha hs).run pins s σ H Rr I ⟨G, e, ds, e', r, ?_, q⟩
    unfold iEnS
    rw [h1]
    exact h0
  · cases h0⟩
end
theorem lenN : ∀ (e : En) (ds : List D) (e' : En), aNil e = some (ds, e') → ds.length = 0 := fun e ds e' h => by cases h; rfl
theorem lenC {k : Nat} {ma : SE} {mr : SA} (h : ∀ (e : En) (ds : List D) (e' : En), mr e = some (ds, e') → ds.length = k) : ∀ (e : En) (ds : List D) (e' : En), aCons ma mr e = some (ds, e') → ds.length = k + 1 := fun e ds e' q => by
  obtain ⟨⟨a, e1⟩, h1, q⟩ := Option.bind_eq_some_iff.mp q
  obtain ⟨⟨as, e2⟩, h2, q⟩ := Option.map_eq_some_iff.mp q
  cases q
  show as.length + 1 = k + 1
  rw [h _ _ _ h2]
theorem lenS {k : Nat} {ma : SA} (h : ∀ (e : En) (ds : List D) (e' : En), ma e = some (ds, e') → ds.length = k) : ∀ (e : En) (ds : List D) (e' : En), ma e = some (ds, e') → ds.length + 1 = k + 1 := fun e ds e' q => by rw [h e ds e' q]

/-! ### the head's facts: those of hookD, and one more answer -/
abbrev AlP : Type := He.AlD × Bool
def obsP (fa : List He.Fa) (fn : List He.DefD) (ex : PySem.W.Frag → Bool) (K : PySem.W.Frag) : AlP := (He.obsD fa fn K, ex K)
def valP (fn : List He.DefD) : AlP := (He.valD fn, true)
def obsPG (n : Nat) (fa : List He.Fa) (fn : List He.DefD) (ex : PySem.W.Frag → Bool) (g : Addr → Option Obj) : AlP := obsP fa fn ex (He.frG g (He.asD g n))
def hookP (n : Nat) (fa : List He.Fa) (fn : List He.DefD) (ex : PySem.W.Frag → Bool) : PySem.W.Hook where
  α := AlP
  obs := fun s => obsPG n fa fn ex s.heap.get?
  val := fun _ => valP fn
  says := fun _ h => ∃ K : PySem.W.Frag, K.In h ∧ obsP fa fn ex K = valP fn
  of := fun _ _ e => ⟨_, He.frG_in, e⟩
  keeps := fun _ _ _ ⟨K, hK, c⟩ k => ⟨K, PySem.W.Frag.In.keeps hK k, c⟩
theorem obsPG_eq {n : Nat} {fa : List He.Fa} {fn : List He.DefD} {ex : PySem.W.Frag → Bool} {g : Addr → Option Obj} {s : Shared} (h : ∀ a, g a = s.heap.get? a) : obsPG n fa fn ex g = (hookP n fa fn ex).obs s := by
  have e : g = s.heap.get? := funext h
  rw [e] <;> rfl
theorem says_d {fa : List He.Fa} {fn : List He.DefD} {ex : PySem.W.Frag → Bool} {K : PySem.W.Frag} (c : obsP fa fn ex K = valP fn) : He.SaysD fa fn K := congrArg (fun z : AlP => z.1) c
theorem says_ex {fa : List He.Fa} {fn : List He.DefD} {ex : PySem.W.Frag → Bool} {K : PySem.W.Frag} (c : obsP fa fn ex K = valP fn) : ex K = true := congrArg (fun z : AlP => z.2) c
theorem tup_ints {K : PySem.W.Frag} {x : Str} {ns : List Int} (h : He.tupB K x (ns.map He.Dv.int) = true) (G : Hp) : Dp K G (.ref (He.ga K x)) (.tuple (ns.map PyData.int)) := by
  refine .tup (He.tupB_ok h G) ?_
  clear h
  induction ns with
  | nil => exact .nil
  | cons n r ih => exact .cons (.int n) ih
end PL

set_option maxHeartbeats 4000000
/-! The pure layer, part u: several names at once with lists of one's own; texts read backwards; a text's place in a text. -/
namespace PL
open PySem PySem.Spec PyProof.Rows L2

/-! ### several names at once, some with lists of their own -/
inductive MV where
  | d (x : D) | l (ds : List D)
abbrev SM := En → Option (List MV × En)
def mNil : SM := fun e => some ([], e)
def mCD (m : SE) (r : SM) : SM := fun e => (m e).bind fun p => (r p.2).map fun q => (.d p.1 :: q.1, q.2)
def mCL (m : SF) (r : SM) : SM := fun e => (m e).bind fun p => (r p.2).map fun q => (.l p.1 :: q.1, q.2)
def setM (e : En) (i : Nat) : MV → Option En
  | .d x => setv e i x
  | .l ds => seto e i ds
def setMs : List Nat → List MV → En → Option En
  | [], [], e => some e
  | i :: is, m :: ms, e => (setM e i m).bind (setMs is ms)
  | _, _, _ => none
def setVs : List Nat → List V → VSt → VSt
  | i :: is, v :: vs, σ => setVs is vs (σ.set i (some v))
  | _, _, σ => σ
section
variable {K : PySem.W.Frag} {G H G0 H0 G1 H1 : Hp} {σ σ0 σ1 : VSt} {e e0 e1 e' : En}
/-- what is known of a value on its way to a name; H0: the heap at the start -/
def MOk (K : PySem.W.Frag) (G H H0 : Hp) (σ : VSt) (e : En) (v : V) : MV → Prop
  | .d x => Dp K G v x
  | .l ds => ∃ p xs, v = .ref p ∧ H p = some (.lst xs) ∧ DpAll K G xs ds ∧ G p = none ∧ H0 p = none ∧ ¬ Ow σ e p
def isL : MV → Bool
  | .l _ => true
  | _ => false
inductive MAll (K : PySem.W.Frag) (G H H0 : Hp) (σ : VSt) (e : En) : List V → List MV → Prop where
  | nil : MAll K G H H0 σ e [] []
  | cons {v m vs ms} (h : MOk K G H H0 σ e v m) (d : ∀ p, isL m = true → v = .ref p → ∀ (j : Nat) (w : V) (n : MV), vs[j]? = some w → ms[j]? = some n → isL n = true → w ≠ .ref p) (t : MAll K G H H0 σ e vs ms) : MAll K G H H0 σ e (v :: vs) (m :: ms)
theorem MOk.step {v : V} {m : MV} (f : Fx σ e G H σ1 e1 G1 H1) (h : MOk K G H H0 σ e v m) : MOk K G1 H1 H0 σ1 e1 v m := by
  cases m with
  | d x => exact dp_mono f.gg _ _ h
  | l ds =>
    obtain ⟨p, xs, h1, h2, h3, h4, h5, h6⟩ := h
    exact ⟨p, xs, h1, f.hh _ _ h2 h6, dpAll_mono f.gg _ _ h3, f.fr p (ne_none_of h2) h6 h4, h5, f.nm (ne_none_of h2) h6⟩
theorem MAll.step {vs : List V} {ms : List MV} (f : Fx σ e G H σ1 e1 G1 H1) (h : MAll K G H H0 σ e vs ms) : MAll K G1 H1 H0 σ1 e1 vs ms := by
  induction h with
  | nil => exact .nil
  | cons h d _ ih => exact .cons (h.step f) d ih
/-- a name gets its value: the values behind it stay -/
theorem MAll.putO {vs : List V} {ms : List MV} {i : Nat} {p : Addr} {ds : List D} (hl : e.length = σ.length) (h : MAll K G H H0 σ e vs ms) (d : ∀ (j : Nat) (w : V) (n : MV), vs[j]? = some w → ms[j]? = some n → isL n = true → w ≠ .ref p) : MAll K G H H0 (σ.set i (some (.ref p))) (e.set i (.own ds)) vs ms := by
  induction h with
  | nil => exact .nil
  | @cons v m vs ms h d2 _ ih =>
    refine .cons ?_ d2 (ih fun j w n a b c => d (j + 1) w n (by simpa using a) (by simpa using b) c)
    cases m with
    | d x => exact h
    | l es =>
      obtain ⟨q, xs, h1, h2, h3, h4, h5, h6⟩ := h
      refine ⟨q, xs, h1, h2, h3, h4, h5, fun z => ?_⟩
      rcases ow_setOwn hl z with w | w
      · exact h6 w
      · exact d 0 v (.l es) rfl rfl rfl (by rw [h1, w])
theorem put_ms : ∀ (is : List Nat) (ms : List MV) (vs : List V) (σ : VSt) (e : En), R K G H σ e → Fx σ0 e0 G0 H0 σ e G H → MAll K G H H0 σ e vs ms → setMs is ms e = some e' → R K G H (setVs is vs σ) e' ∧ Fx σ0 e0 G0 H0 (setVs is vs σ) e' G H
  | [], [], _, σ, e, r, f, h, q => by
    cases h
    cases q
    exact ⟨r, f⟩
  | i :: is, m :: ms, _, σ, e, r, f, h, q => by
    cases h with
    | @cons v _ vs _ h d t =>
      obtain ⟨e1, q1, q2⟩ := Option.bind_eq_some_iff.mp q
      cases m with
      | d x =>
        obtain ⟨r2, f2⟩ := put_v r h q1
        exact put_ms is ms vs _ _ r2 (f.trans f2) (t.step f2) q2
      | l ds =>
        obtain ⟨p, xs, h1, h2, h3, h4, h5, h6⟩ := h
        subst h1
        have t2 : MAll K G H H0 (σ.set i (some (.ref p))) (e.set i (.own ds)) vs ms := t.putO r.len (d p rfl rfl)
        obtain ⟨r2, f2⟩ := put_o r h2 h3 h4 h6 q1 G0 H0 σ0 e0 f h5
        obtain ⟨ee, _⟩ := seto_some q1
        subst ee
        exact put_ms is ms vs _ _ r2 f2 t2 q2
  | [], _ :: _, _, _, _, _, _, _, q => nomatch q
  | _ :: _, [], _, _, _, _, _, _, q => nomatch q
theorem MAll.base {vs : List V} {ms : List MV} {Hb : Hp} (nn : ∀ a, Hb a ≠ none → H0 a ≠ none) (h : MAll K G H H0 σ e vs ms) : MAll K G H Hb σ e vs ms := by
  induction h with
  | nil => exact .nil
  | @cons v m vs ms h d _ ih =>
    refine .cons ?_ d ih
    cases m with
    | d x => exact h
    | l es =>
      obtain ⟨q, xs, h1, h2, h3, h4, h5, h6⟩ := h
      refine ⟨q, xs, h1, h2, h3, h4, ?_, h6⟩
      cases z : Hb q with
      | none => rfl
      | some o => exact absurd h5 (nn q (ne_none_of z))
theorem MAll.away {vs : List V} {ms : List MV} {p : Addr} {o : HO} (hp : H0 p = some o) (h : MAll K G H H0 σ e vs ms) : ∀ (j : Nat) (w : V) (n : MV), vs[j]? = some w → ms[j]? = some n → isL n = true → w ≠ .ref p := by
  induction h with
  | nil => intro j w n a; simp at a
  | @cons v m vs ms h d _ ih =>
    intro j w n a b c
    cases j with
    | succ j => exact ih j w n (by simpa using a) (by simpa using b) c
    | zero =>
      cases a
      cases b
      cases m with
      | d x => cases c
      | l es =>
        obtain ⟨q, xs, h1, h2, h3, h4, h5, h6⟩ := h
        intro z
        rw [h1] at z
        cases z
        rw [hp] at h5
        cases h5
end
def tM (K : PySem.W.Frag) (m : SM) : TA := fun σ H Q => ∃ G e ms e', R K G H σ e ∧ m e = some (ms, e') ∧ ∀ vs G' H', R K G' H' σ e' → Fx σ e G H σ e' G' H' → MAll K G' H' H σ e' vs ms → Q vs H'
def DM (X : Cx) (xs : List Expr) (m : SM) : Prop := PA X xs (tM X.K m)
section
variable {X : Cx} {x y c : Expr} {es : List Expr} {ma : SE} {mf : SF} {mr : SM} {pos p p2 : Pos}
theorem dm_nil : DM X [] mNil := weakA pa_nil fun σ H Q ⟨G, e, ds, e', r, hm, q⟩ => by
  cases hm
  exact q [] G H r .refl .nil
theorem dm_d (ha : DE X x ma) (hr : DM X es mr) (hs : starEach (x :: es) X.env = (false, eval x X.env) :: starEach es X.env := by rfl) : DM X (x :: es) (mCD ma mr) :=
  weakA (pa_cons ha hr hs) fun σ H Q ⟨G, e, ds, e', r, hm, q⟩ => by
    obtain ⟨⟨a, e1⟩, h1, hm⟩ := Option.bind_eq_some_iff.mp hm
    obtain ⟨⟨bs, e2⟩, h2, hm⟩ := Option.map_eq_some_iff.mp hm
    cases hm
    refine ⟨G, e, a, e1, r, h1, fun v G1 H1 r1 f1 d1 => ⟨G1, e1, bs, e2, r1, h2, fun vs G2 H2 r2 f2 d2 => q (v :: vs) G2 H2 r2 (f1.trans f2) (.cons (dp_mono f2.gg _ _ d1) (fun _ z => by cases z) ?_)⟩⟩
    exact MAll.base f1.nn d2
theorem dm_l (ha : DF X x mf) (hr : DM X es mr) (hs : starEach (x :: es) X.env = (false, eval x X.env) :: starEach es X.env := by rfl) : DM X (x :: es) (mCL mf mr) :=
  weakA (pa_cons ha hr hs) fun σ H Q ⟨G, e, ds, e', r, hm, q⟩ => by
    obtain ⟨⟨a, e1⟩, h1, hm⟩ := Option.bind_eq_some_iff.mp hm
    obtain ⟨⟨bs, e2⟩, h2, hm⟩ := Option.map_eq_some_iff.mp hm
    cases hm
    refine ⟨G, e, a, e1, r, h1, fun pp xs G1 H1 r1 f1 hp hd hg h0 ho => ⟨G1, e1, bs, e2, r1, h2, fun vs G2 H2 r2 f2 d2 => q (.ref pp :: vs) G2 H2 r2 (f1.trans f2) (.cons ⟨pp, xs, rfl, f2.hh _ _ hp ho, dpAll_mono f2.gg _ _ hd, f2.fr pp (ne_none_of hp) ho hg, h0, f2.nm (ne_none_of hp) ho⟩ (fun p' _ z => ?_) (MAll.base f1.nn d2))⟩⟩
    cases z
    exact MAll.away hp d2
def sParM (is : List Nat) (m : SM) : SS := fun e => (m e).bind fun p => (setMs is p.1 p.2).map .nx
theorem ds_parM (i j : Nat) {n1 n2 : Str} {m : SM} {px py pt : Pos} {kt k2 pt2} (hc : X.calm = true) (hN : X.N.Nodup) (hi : X.N[i]? = some n1) (hj : X.N[j]? = some n2) (hij : i ≠ j)
    (hx : X.env.scope.names.lookup n1 = some .local) (hy : X.env.scope.names.lookup n2 = some .local) (ha : DM X [x, y] m)
    (hw : swappedStores [.Tuple [.Name n1 px, .Name n2 py] kt pt] (.Tuple [x, y] k2 pt2) X.env = pure (some [n1, n2]))
    (hs : swapsWithSole [.Tuple [.Name n1 px, .Name n2 py] kt pt] (.Tuple [x, y] k2 pt2) pos.line X.env = pure false := by rfl) :
    DS X (.Assign [.Tuple [.Name n1 px, .Name n2 py] kt pt] (.Tuple [x, y] k2 pt2) pos) (sParM [i, j] m) :=
  weakS (ps_par hc hN hi hj hij hx hy ha hw hs) fun Dn σ H ⟨G, e, o, r, hm, q⟩ => by
    obtain ⟨⟨ms, e1⟩, h1, hm⟩ := Option.bind_eq_some_iff.mp hm
    obtain ⟨e2, h2, hm⟩ := Option.map_eq_some_iff.mp hm
    cases hm
    refine ⟨G, e, ms, e1, r, h1, fun vs G1 H1 r1 f1 d1 => ?_⟩
    obtain ⟨r2, f2⟩ := put_ms [i, j] ms vs σ e1 r1 f1 d1 h2
    cases d1 with
    | nil => cases h2
    | @cons v m1 vs1 ms1 a b t =>
      cases t with
      | nil => obtain ⟨_, _, z⟩ := Option.bind_eq_some_iff.mp h2; cases z
      | @cons w m2 vs2 ms2 a2 b2 t2 =>
        cases t2 with
        | nil => exact ⟨v, w, rfl, q _ G1 H1 r2 f2⟩
        | cons => obtain ⟨_, _, z⟩ := Option.bind_eq_some_iff.mp h2; obtain ⟨_, _, z⟩ := Option.bind_eq_some_iff.mp z; cases z
theorem ds_parM3 (i j l : Nat) {n1 n2 n3 : Str} {m : SM} {px py pz pt : Pos} {kt k2 pt2} (hc : X.calm = true) (hN : X.N.Nodup) (hi : X.N[i]? = some n1) (hj : X.N[j]? = some n2) (hl : X.N[l]? = some n3) (hij : i ≠ j) (hil : i ≠ l) (hjl : j ≠ l)
    (hx : X.env.scope.names.lookup n1 = some .local) (hy : X.env.scope.names.lookup n2 = some .local) (hz : X.env.scope.names.lookup n3 = some .local) (ha : DM X [x, y, c] m)
    (hw : swappedStores [.Tuple [.Name n1 px, .Name n2 py, .Name n3 pz] kt pt] (.Tuple [x, y, c] k2 pt2) X.env = pure (some [n1, n2, n3]))
    (hs : swapsWithSole [.Tuple [.Name n1 px, .Name n2 py, .Name n3 pz] kt pt] (.Tuple [x, y, c] k2 pt2) pos.line X.env = pure false := by rfl) :
    DS X (.Assign [.Tuple [.Name n1 px, .Name n2 py, .Name n3 pz] kt pt] (.Tuple [x, y, c] k2 pt2) pos) (sParM [i, j, l] m) :=
  weakS (ps_par3 hc hN hi hj hl hij hil hjl hx hy hz ha hw hs) fun Dn σ H ⟨G, e, o, r, hm, q⟩ => by
    obtain ⟨⟨ms, e1⟩, h1, hm⟩ := Option.bind_eq_some_iff.mp hm
    obtain ⟨e2, h2, hm⟩ := Option.map_eq_some_iff.mp hm
    cases hm
    refine ⟨G, e, ms, e1, r, h1, fun vs G1 H1 r1 f1 d1 => ?_⟩
    obtain ⟨r2, f2⟩ := put_ms [i, j, l] ms vs σ e1 r1 f1 d1 h2
    cases d1 with
    | nil => cases h2
    | @cons v m1 vs1 ms1 a b t =>
      cases t with
      | nil => obtain ⟨_, _, z⟩ := Option.bind_eq_some_iff.mp h2; cases z
      | @cons w m2 vs2 ms2 a2 b2 t2 =>
        cases t2 with
        | nil => obtain ⟨_, _, z⟩ := Option.bind_eq_some_iff.mp h2; obtain ⟨_, _, z⟩ := Option.bind_eq_some_iff.mp z; cases z
        | @cons u m3 vs3 ms3 a3 b3 t3 =>
          cases t3 with
          | nil => exact ⟨v, w, u, rfl, q _ G1 H1 r2 f2⟩
          | cons => obtain ⟨_, _, z⟩ := Option.bind_eq_some_iff.mp h2; obtain ⟨_, _, z⟩ := Option.bind_eq_some_iff.mp z; obtain ⟨_, _, z⟩ := Option.bind_eq_some_iff.mp z; cases z
end
end PL
namespace PL
open PySem PySem.Spec PyProof.Rows L2
/-! ### texts read backwards -/
def revS (z : Str) : Str := ⟨z.cps.toList.reverse.toArray⟩
theorem revS_pick (z : Str) : (⟨((slicePicked z none none (some ((-1 : Int), (0 : Tok)))).filterMap (z.cps[·]?)).toArray⟩ : Str) = revS z := by
  unfold revS slicePicked
  have e : Builtin.Str.strSliceIndices none none (-1) z.length = (List.range z.cps.size).reverse := by
    show sliceRange ((z.cps.size : Int) - 1) (-1) (-1) = _
    rw [PySem.W.krv_sliceRange, PySem.W.krv_range]
  show (⟨((Builtin.Str.strSliceIndices none none (-1) z.length).filterMap (z.cps[·]?)).toArray⟩ : Str) = _
  rw [e, List.filterMap_reverse, PySem.W.krv_all]
def tRevS (te : TE) : TE := fun σ H Q => te σ H fun x H1 => ∃ z : Str, x = .str z ∧ z.length ≤ sizeLine ∧ Q (.str (revS z)) H1
theorem pe_revS {X : Cx} {e : Expr} {te : TE} {k : Nat} {p1 p2 p3 pos : Pos} (he : PE X e te) : PE X (.Subscript e (.Slice none none (some (.UnaryOp .USub (.Constant (.int 1) k p1) p2)) p3) pos) (tRevS te) := by
  refine ⟨fun pins s σ H Q I h => ?_⟩
  refine Subscript_ (thn (he.run pins s σ H _ I h) fun v s1 ⟨x, H1, I1, r1, q1⟩ => ?_)
  obtain ⟨z, ex, hz, q⟩ := q1
  subst ex
  obtain ⟨t, rfl⟩ := r1
  have hst : PO X (some (.UnaryOp .USub (.Constant (.int 1) k p1) p2)) (tPart (tUn (rU fun i => .int (-i)) (tC (.int 1)))) := po_some (pe_un un_neg pe_int)
  refine wpAny_Slice (thn (po_none.run pins s1 σ H1 (fun o H2 => o = none ∧ H2 = H1) I1 ⟨rfl, rfl⟩) fun vl s2 ⟨l, H2, I2, pl, el, e2⟩ => ?_)
  subst el e2
  refine thn (po_none.run pins s2 σ H2 (fun o H3 => o = none ∧ H3 = H2) I2 ⟨rfl, rfl⟩) fun vu s3 ⟨u, H3, I3, pu, eu, e3⟩ => ?_
  subst eu e3
  refine thn (hst.run pins s3 σ H3 (fun o H4 => o = some (-1) ∧ H4 = H3) I3 ⟨1, rfl, -1, rfl, rfl, rfl⟩) fun vs s4 ⟨o, H4, I4, ps, eo, e4⟩ => ?_
  subst eo e4
  obtain ⟨l, rfl, el⟩ := IsPart.raw pl
  obtain ⟨u, rfl, eu⟩ := IsPart.raw pu
  obtain ⟨w, rfl, ew⟩ := IsPart.raw ps
  have l0 : l = none := by cases l <;> first | rfl | cases el
  have u0 : u = none := by cases u <;> first | rfl | cases eu
  subst l0 u0
  obtain ⟨tk, rfl⟩ : ∃ tk, w = some (-1, tk) := by
    cases w with
    | none => cases ew
    | some p => obtain ⟨i, tk⟩ := p; cases ew; exact ⟨tk, rfl⟩
  have I5 : L2.Inv X pins σ H4 { s4 with heap := s4.heap.push { cls := .type "slice", data := .fields #[partValue none, partValue none, partValue (some (-1, tk))] } } := I4.kept (t' := s4.toks) fun b ob q => Heap.get?_push_of_some _ q
  have hl : (Txt.sliceBy z none none (-1, tk)).length ≤ sizeLine := Nat.le_trans (Txt.sliceBy_le z none none (-1, tk) (show ((-1 : Int)) ≠ 0 by decide)) hz
  have hv : Txt.sliceBy z none none (-1, tk) = revS z := revS_pick z
  refine tail_of_ItemOn ⟨"str", _, F.slot_str_getitem.lookup, typeIs_str _ _ _, wpAny_getItem_str_slice (l := none) (u := none) (st := some (-1, tk)) ⟨_, Heap.get?_push_size _ rfl, rfl, rfl⟩ rfl
    (post_val_or_str ⟨hl, fun t' c => ?_⟩)⟩ (by with_unfolding_all rfl) (by intro _; cases e <;> rfl)
  have hq : Q (.str (Txt.sliceBy z none none (-1, tk))) H4 := by rw [hv]; exact q
  exact ⟨.str _, H4, I5.tok _, ⟨_, rfl⟩, hq⟩
def eRev (m : SE) : SE := fun e => (m e).bind fun p => match p.1 with
  | .str z => if z.length ≤ sizeLine then some (.str (revS z), p.2) else none
  | _ => none
theorem de_rev {X : Cx} {x : Expr} {ma : SE} {k : Nat} {p1 p2 p3 pos : Pos} (h : DE X x ma) : DE X (.Subscript x (.Slice none none (some (.UnaryOp .USub (.Constant (.int 1) k p1) p2)) p3) pos) (eRev ma) :=
  weakE (pe_revS h) fun σ H Q ⟨G, e, d, e', r, hm, q⟩ => by
    obtain ⟨⟨a, e1⟩, h1, hm⟩ := Option.bind_eq_some_iff.mp hm
    refine ⟨G, e, a, e1, r, h1, fun v G1 H1 r1 f1 d1 => ?_⟩
    dsimp only at hm
    split at hm
    · split at hm
      · rename_i hz
        cases hm
        cases d1
        exact ⟨_, rfl, hz, q _ G1 H1 r1 f1 (.str _)⟩
      · cases hm
    · cases hm
/-! ### a text's first place in a text -/
def dSindex : D → List D → Option D
  | .str a, [.str b] => match Builtin.Str.occurrences a b 0 a.length 1 with
    | i :: _ => some (.int (i : Nat))
    | [] => none
  | _, _ => none
theorem mt_sindex' {X : Cx} : MtR X "str.index" (rDm X.K dSindex) := weakMt mt_sindex fun x xs H Q ⟨G, a, ds, c, s, h1, h2, hm, q⟩ => by
  unfold dSindex at hm
  split at hm
  · split at hm
    · rename_i i r hz
      cases hm
      obtain ⟨v, rfl, h3⟩ := dp1 h2
      cases h1
      cases h3
      exact ⟨_, _, i, r, rfl, rfl, hz, q _ G H (.refl s) (.int _)⟩
    · cases hm
  · cases hm
theorem ty_sindex {K : PySem.W.Frag} (G H : Hp) (a : D) (ds : List D) (c : D) (v : V) (s : Same G H) (h : dSindex a ds = some c) (d : Dp K G v a) : tyV K "str" v H := by
  unfold dSindex at h
  split at h
  · exact tyv_str d
  · cases h
end PL
namespace PL
open PySem PySem.Spec PyProof.Rows L2
/-- a body that nobody reaches -/
theorem db_dead {X : Cx} {sts : List Stmt} : DB X sts sNever := ⟨fun pins s σ H Dn I ⟨G, e, o, r, hm, q⟩ => by cases hm⟩
end PL

set_option maxHeartbeats 4000000
/-! The pure layer, part s: evaluation, step by step (printed by genS.py). -/
namespace PL
open PySem PySem.Spec PyProof.Rows L2
theorem noRfl {α : Sort u} {a b : α} (h : a = b) : a = b := h

def seqB (r : Option Out) (n : SS) : Option Out := match r with
  | some (.nx e) => n e
  | some o => some o
  | none => none
def ifB (r : Option (Bool × En)) (m n : SS) : Option Out := match r with
  | some (true, e) => m e
  | some (false, e) => n e
  | none => none
def retB (r : Option (D × En)) : Option Out := match r with
  | some (d, e) => some (.rt d e)
  | none => none
def expB (r : Option (D × En)) : Option Out := match r with
  | some (_, e) => some (.nx e)
  | none => none
def nxB (r : Option En) : Option Out := match r with
  | some e => some (.nx e)
  | none => none
def setB (r : Option (D × En)) (i : Nat) : Option Out := match r with
  | some (d, e) => nxB (setv e i d)
  | none => none
def ownB (r : Option (List D × En)) (i : Nat) : Option Out := match r with
  | some (d, e) => nxB (seto e i d)
  | none => none
def asgB (r : Option (D × En)) (g : D → En → Option En) : Option Out := match r with
  | some (d, e) => nxB (g d e)
  | none => none
def par2 (r : Option En) (j : Nat) (b : D) : Option En := match r with
  | some e => setv e j b
  | none => none
def parB (r : Option (List D × En)) (i j : Nat) : Option Out := match r with
  | some ([a, b], e) => nxB (par2 (setv e i a) j b)
  | _ => none
def par3B (r : Option (List D × En)) (i j l : Nat) : Option Out := match r with
  | some ([a, b, c], e) => nxB (par2 (par2 (setv e i a) j b) l c)
  | _ => none
def appB (r : Option (D × En)) (i : Nat) : Option Out := match r with
  | some (d, e) => (mutL e i).bind fun ds => if ds.length < sizeLine then nxB (putL e i (ds ++ [d])) else none
  | none => none
def binD (r : Option D) (e : En) : Option (D × En) := match r with
  | some c => some (c, e)
  | none => none
def binC (f : D → D → Option D) (a : D) (r : Option (D × En)) : Option (D × En) := match r with
  | some (b, e) => binD (f a b) e
  | none => none
def binB (f : D → D → Option D) (r : Option (D × En)) (mb : SE) : Option (D × En) := match r with
  | some (a, e) => binC f a (mb e)
  | none => none
def unB (f : D → Option D) (r : Option (D × En)) : Option (D × En) := match r with
  | some (a, e) => binD (f a) e
  | none => none
def chD2 (r : Option D) (g : D → D → Option D) (b : D) (e : En) (mc : SE) : Option (D × En) := match r with
  | some (.bool true) => binC g b (mc e)
  | some (.bool false) => some (.bool false, e)
  | _ => none
def chC (f g : D → D → Option D) (a : D) (r : Option (D × En)) (mc : SE) : Option (D × En) := match r with
  | some (b, e) => chD2 (f a b) g b e mc
  | none => none
def chB (f g : D → D → Option D) (r : Option (D × En)) (mb mc : SE) : Option (D × En) := match r with
  | some (a, e) => chC f g a (mb e) mc
  | none => none
def andB (r : Option (D × En)) (m : SE) : Option (D × En) := match r with
  | some (.bool true, e) => m e
  | some (.bool false, e) => some (.bool false, e)
  | _ => none
def orB (r : Option (D × En)) (m : SE) : Option (D × En) := match r with
  | some (.bool true, e) => some (.bool true, e)
  | some (.bool false, e) => m e
  | _ => none
def notB (r : Option (D × En)) : Option (D × En) := match r with
  | some (.bool b, e) => some (.bool (!b), e)
  | _ => none
def ifeB (r : Option (Bool × En)) (m n : SE) : Option (D × En) := match r with
  | some (true, e) => m e
  | some (false, e) => n e
  | none => none
def tstB (r : Option (D × En)) : Option (Bool × En) := match r with
  | some (.bool b, e) => some (b, e)
  | _ => none
def cAndB (r : Option (Bool × En)) (u : ST) : Option (Bool × En) := match r with
  | some (true, e) => u e
  | some (false, e) => some (false, e)
  | none => none
def cOrB (r : Option (Bool × En)) (u : ST) : Option (Bool × En) := match r with
  | some (true, e) => some (true, e)
  | some (false, e) => u e
  | none => none
def cNotB (r : Option (Bool × En)) : Option (Bool × En) := match r with
  | some (b, e) => some (!b, e)
  | none => none
def consC (a : D) (r : Option (List D × En)) : Option (List D × En) := match r with
  | some (ds, e) => some (a :: ds, e)
  | none => none
def consB (r : Option (D × En)) (m : SA) : Option (List D × En) := match r with
  | some (a, e) => consC a (m e)
  | none => none
def tupB (r : Option (List D × En)) : Option (D × En) := match r with
  | some (ds, e) => if ds.length ≤ sizeLine then some (.tuple ds, e) else none
  | none => none
def lstB (r : Option (List D × En)) : Option (List D × En) := match r with
  | some (ds, e) => if ds.length ≤ sizeLine then some (ds, e) else none
  | none => none
def ofB (r : Option (List D × En)) : Option (D × En) := match r with
  | some (ds, e) => some (.list ds, e)
  | none => none
def callC (r : Option D) (e : En) : Option (D × En) := match r with
  | some c => some (c, e)
  | none => none
def callB (f : List D → Option D) (r : Option (List D × En)) : Option (D × En) := match r with
  | some (ds, e) => callC (f ds) e
  | none => none
def fcalC (r : Option (List D)) (e : En) : Option (List D × En) := match r with
  | some c => some (c, e)
  | none => none
def fcalB (f : List D → Option (List D)) (r : Option (List D × En)) : Option (List D × En) := match r with
  | some (ds, e) => fcalC (f ds) e
  | none => none
def mthC (f : D → List D → Option D) (a : D) (r : Option (List D × En)) : Option (D × En) := match r with
  | some (ds, e) => callC (f a ds) e
  | none => none
def mthB (f : D → List D → Option D) (r : Option (D × En)) (m : SA) : Option (D × En) := match r with
  | some (a, e) => mthC f a (m e)
  | none => none
def slD (f : D → Option Int → Option Int → Option D) (a : D) (lo : Option Int) (r : Option (Option Int × En)) : Option (D × En) := match r with
  | some (hi, e) => callC (f a lo hi) e
  | none => none
def slC (f : D → Option Int → Option Int → Option D) (a : D) (r : Option (Option Int × En)) (mh : SO) : Option (D × En) := match r with
  | some (lo, e) => slD f a lo (mh e)
  | none => none
def slB (f : D → Option Int → Option Int → Option D) (r : Option (D × En)) (ml mh : SO) : Option (D × En) := match r with
  | some (a, e) => slC f a (ml e) mh
  | none => none
def oB (r : Option (D × En)) : Option (Option Int × En) := match r with
  | some (.int i, e) => some (some i, e)
  | _ => none
def ixoC (r : Option D) (e : En) : Option (D × En) := match r with
  | some c => some (c, e)
  | none => none
def ixoA (r : Option (List D)) (k : Int) (e : En) : Option (D × En) := match r with
  | some ds => ixoC (atI ds k) e
  | none => none
def ixoB (r0 : Option (List D)) (r : Option (D × En)) (i : Nat) : Option (D × En) := match r0, r with
  | some _, some (.int k, e) => ixoA (lstAt e i) k e
  | _, _ => none
def lenB (r : Option (List D)) (e : En) : Option (D × En) := match r with
  | some ds => some (.int ds.length, e)
  | none => none
def hcD (r : D) (e : Option En) : Option (D × En) := match e with
  | some e => some (r, e)
  | none => none
def hcC (r : Option (D × List D)) (e : En) (i : Nat) : Option (D × En) := match r with
  | some (c, hs) => hcD c (putL e i hs)
  | none => none
def hcB (hs : Option (List D)) (ds : List D) (e : En) (i : Nat) (m : List D → List D → Option (D × List D)) : Option (D × En) := match hs with
  | some hs => hcC (m hs ds) e i
  | none => none
def hcA (h0 : Option (List D)) (r : Option (List D × En)) (i : Nat) (m : List D → List D → Option (D × List D)) : Option (D × En) := match h0, r with
  | some _, some (ds, e) => hcB (mutL e i) ds e i m
  | _, _ => none
def isiC (r : Option Bool) (e : En) : Option (D × En) := match r with
  | some b => some (.bool b, e)
  | none => none
def isiB (T : String) (r : Option (D × En)) : Option (D × En) := match r with
  | some (d, e) => isiC (kitB (clsD d) T) e
  | none => none
def cmpE (r : Option (List D × En)) (e : En) (vs : List Nat) : Option (List D × En) := match r with
  | some (rs, e2) => if noExt e vs = true ∧ rs.length ≤ sizeLine then some (rs, backE e e2 vs) else none
  | none => none
def cmpB (r : Option (List D × En)) (g : D → En → Option En) (t : ST) (me : SE) (vs : List Nat) : Option (List D × En) := match r with
  | some (ds, e) => cmpE (compL g t me vs ds (wipeE e vs)) e vs
  | none => none
def forB (r : Option (List D × En)) (g : D → En → Option En) (b : SS) : Option Out := match r with
  | some (ds, e) => forL g b ds e
  | none => none
def anyB (r : Option (D × En)) : Option (List D × En) := match r with
  | some (.list ds, e) => some (ds, e)
  | some (.tuple ds, e) => some (ds, e)
  | some (.str z, e) => some (chD z, e)
  | _ => none
def rg1B (r : Option (List D × En)) : Option (List D × En) := match r with
  | some ([.int j], e) => if small62 j then some (rgD 0 j.toNat, e) else none
  | _ => none
def rg2B (r : Option (List D × En)) : Option (List D × En) := match r with
  | some ([.int i, .int j], e) => if small62 i && small62 j then some (rgD i (j - i).toNat, e) else none
  | _ => none
def zpB (r : Option (List D × En)) : Option (List D × En) := match r with
  | some ([.list a, .list b], e) => some (prs a b, e)
  | _ => none
def enB (r : Option (List D × En)) : Option (List D × En) := match r with
  | some ([.list a], e) => some (enD a, e)
  | some ([.str a], e) => some (enD (chD a), e)
  | _ => none
def putC (q : Option (D × En)) (i : Nat) (d : D) : Option Out := match q with
  | some (.int k, e) => (mutL e i).bind fun ds => (ixN ds.length k).bind fun j => nxB (putL e i (ds.set j d))
  | _ => none
def putB (r : Option (D × En)) (i : Nat) (mk : SE) : Option Out := match r with
  | some (d, e) => (mutL e i).bind fun _ => putC (mk e) i d
  | none => none
def bkS (r : Option Sl) : Sl := match r with
  | some (.val d) => .val d
  | _ => .un
def nx1 (r : Option Sl) : Bool := match r with
  | some (.ext _) => false
  | _ => true
def pmB (is : List Nat) (r : Option (List MV × En)) : Option Out := match r with
  | some (ms, e) => nxB (setMs is ms e)
  | none => none
def mdC (d : D) (r : Option (List MV × En)) : Option (List MV × En) := match r with
  | some (ms, e) => some (.d d :: ms, e)
  | none => none
def mdB (r0 : Option (D × En)) (r : SM) : Option (List MV × En) := match r0 with
  | some (d, e) => mdC d (r e)
  | none => none
def mlC (d : List D) (r : Option (List MV × En)) : Option (List MV × En) := match r with
  | some (ms, e) => some (.l d :: ms, e)
  | none => none
def mlB (r0 : Option (List D × En)) (r : SM) : Option (List MV × En) := match r0 with
  | some (d, e) => mlC d (r e)
  | none => none
def smB (r : Option En) (is : List Nat) (ms : List MV) : Option En := match r with
  | some e => setMs is ms e
  | none => none
def rvB (r : Option (D × En)) : Option (D × En) := match r with
  | some (.str z, e) => if z.length ≤ sizeLine then some (.str (revS z), e) else none
  | _ => none
def gsB (r : Option En) (gs : List D → En → Option En) (ds : List D) : Option En := match r with
  | some e => gs ds e
  | none => none
def apB (r : Option (List D)) (d : D) (e : En) (i : Nat) : Option Out := match r with
  | some ds => if ds.length < sizeLine then nxB (putL e i (ds ++ [d])) else none
  | none => none
def apA (r0 : Option (List D)) (r : Option (D × En)) (i : Nat) : Option Out := match r0, r with
  | some _, some (d, e) => apB (mutL e i) d e i
  | _, _ => none
def ptD (r : Option Nat) (ds : List D) (d : D) (e : En) (i : Nat) : Option Out := match r with
  | some j => nxB (putL e i (ds.set j d))
  | none => none
def ptC (r : Option (List D)) (k : Int) (d : D) (e : En) (i : Nat) : Option Out := match r with
  | some ds => ptD (ixN ds.length k) ds d e i
  | none => none
def ptB (r0 : Option (List D)) (q : Option (D × En)) (i : Nat) (d : D) : Option Out := match r0, q with
  | some _, some (.int k, e) => ptC (mutL e i) k d e i
  | _, _ => none
def ptA (r : Option (D × En)) (i : Nat) (mk : SE) : Option Out := match r with
  | some (d, e) => ptB (mutL e i) (mk e) i d
  | none => none
theorem kit_int_int : kitB "int" "int" = some true := by decide +kernel
theorem kit_int_bool : kitB "int" "bool" = some false := by decide +kernel
theorem kit_int_str : kitB "int" "str" = some false := by decide +kernel
theorem kit_int_list : kitB "int" "list" = some false := by decide +kernel
theorem kit_int_tuple : kitB "int" "tuple" = some false := by decide +kernel
theorem kit_bool_int : kitB "bool" "int" = some true := by decide +kernel
theorem kit_bool_bool : kitB "bool" "bool" = some true := by decide +kernel
theorem kit_bool_str : kitB "bool" "str" = some false := by decide +kernel
theorem kit_bool_list : kitB "bool" "list" = some false := by decide +kernel
theorem kit_bool_tuple : kitB "bool" "tuple" = some false := by decide +kernel
theorem kit_str_int : kitB "str" "int" = some false := by decide +kernel
theorem kit_str_bool : kitB "str" "bool" = some false := by decide +kernel
theorem kit_str_str : kitB "str" "str" = some true := by decide +kernel
theorem kit_str_list : kitB "str" "list" = some false := by decide +kernel
theorem kit_str_tuple : kitB "str" "tuple" = some false := by decide +kernel
theorem kit_list_int : kitB "list" "int" = some false := by decide +kernel
theorem kit_list_bool : kitB "list" "bool" = some false := by decide +kernel
theorem kit_list_str : kitB "list" "str" = some false := by decide +kernel
theorem kit_list_list : kitB "list" "list" = some true := by decide +kernel
theorem kit_list_tuple : kitB "list" "tuple" = some false := by decide +kernel
theorem kit_tuple_int : kitB "tuple" "int" = some false := by decide +kernel
theorem kit_tuple_bool : kitB "tuple" "bool" = some false := by decide +kernel
theorem kit_tuple_str : kitB "tuple" "str" = some false := by decide +kernel
theorem kit_tuple_list : kitB "tuple" "list" = some false := by decide +kernel
theorem kit_tuple_tuple : kitB "tuple" "tuple" = some true := by decide +kernel
theorem kit_none_int : kitB "NoneType" "int" = some false := by decide +kernel
theorem kit_none_bool : kitB "NoneType" "bool" = some false := by decide +kernel
theorem kit_none_str : kitB "NoneType" "str" = some false := by decide +kernel
theorem kit_none_list : kitB "NoneType" "list" = some false := by decide +kernel
theorem kit_none_tuple : kitB "NoneType" "tuple" = some false := by decide +kernel
theorem nm0 {l : En} {d : D} : eNm 0 (.val d :: l) = some (d, .val d :: l) := noRfl rfl
theorem no0 {l : En} {d : List D} : eNm 0 (.own d :: l) = some (.list d, .val (.list d) :: l) := noRfl rfl
theorem svu0 {l : En} {x : D} : setv (.un :: l) 0 x = some (.val x :: l) := noRfl rfl
theorem svv0 {l : En} {d x : D} : setv (.val d :: l) 0 x = some (.val x :: l) := noRfl rfl
theorem svo0 {l : En} {d : List D} {x : D} : setv (.own d :: l) 0 x = some (.val x :: l) := noRfl rfl
theorem sou0 {l : En} {x : List D} : seto (.un :: l) 0 x = some (.own x :: l) := noRfl rfl
theorem sov0 {l : En} {d : D} {x : List D} : seto (.val d :: l) 0 x = some (.own x :: l) := noRfl rfl
theorem soo0 {l : En} {d x : List D} : seto (.own d :: l) 0 x = some (.own x :: l) := noRfl rfl
theorem st0 {l : En} {s x : Sl} : (s :: l).set 0 x = x :: l := noRfl rfl
theorem gt0 {l : En} {s : Sl} : (s :: l)[0]? = some s := noRfl rfl
theorem mo0 {l : En} {d : List D} : mutL (.own d :: l) 0 = some d := noRfl rfl
theorem po0 {l : En} {d x : List D} : putL (.own d :: l) 0 x = some (.own x :: l) := noRfl rfl
theorem la0 {l : En} {d : List D} : lstAt (.own d :: l) 0 = some d := noRfl rfl
theorem lv0 {l : En} {d : List D} : lstAt (.val (.list d) :: l) 0 = some d := noRfl rfl
theorem me0 {l : En} {d : List D} : mutL (.ext d :: l) 0 = some d := noRfl rfl
theorem pe0 {l : En} {d x : List D} : putL (.ext d :: l) 0 x = some (.ext x :: l) := noRfl rfl
theorem le0 {l : En} {d : List D} : lstAt (.ext d :: l) 0 = some d := noRfl rfl
theorem nm1 {a0 : Sl} {l : En} {d : D} : eNm 1 (a0 :: .val d :: l) = some (d, a0 :: .val d :: l) := noRfl rfl
theorem no1 {a0 : Sl} {l : En} {d : List D} : eNm 1 (a0 :: .own d :: l) = some (.list d, a0 :: .val (.list d) :: l) := noRfl rfl
theorem svu1 {a0 : Sl} {l : En} {x : D} : setv (a0 :: .un :: l) 1 x = some (a0 :: .val x :: l) := noRfl rfl
theorem svv1 {a0 : Sl} {l : En} {d x : D} : setv (a0 :: .val d :: l) 1 x = some (a0 :: .val x :: l) := noRfl rfl
theorem svo1 {a0 : Sl} {l : En} {d : List D} {x : D} : setv (a0 :: .own d :: l) 1 x = some (a0 :: .val x :: l) := noRfl rfl
theorem sou1 {a0 : Sl} {l : En} {x : List D} : seto (a0 :: .un :: l) 1 x = some (a0 :: .own x :: l) := noRfl rfl
theorem sov1 {a0 : Sl} {l : En} {d : D} {x : List D} : seto (a0 :: .val d :: l) 1 x = some (a0 :: .own x :: l) := noRfl rfl
theorem soo1 {a0 : Sl} {l : En} {d x : List D} : seto (a0 :: .own d :: l) 1 x = some (a0 :: .own x :: l) := noRfl rfl
theorem st1 {a0 : Sl} {l : En} {s x : Sl} : (a0 :: s :: l).set 1 x = a0 :: x :: l := noRfl rfl
theorem gt1 {a0 : Sl} {l : En} {s : Sl} : (a0 :: s :: l)[1]? = some s := noRfl rfl
theorem mo1 {a0 : Sl} {l : En} {d : List D} : mutL (a0 :: .own d :: l) 1 = some d := noRfl rfl
theorem po1 {a0 : Sl} {l : En} {d x : List D} : putL (a0 :: .own d :: l) 1 x = some (a0 :: .own x :: l) := noRfl rfl
theorem la1 {a0 : Sl} {l : En} {d : List D} : lstAt (a0 :: .own d :: l) 1 = some d := noRfl rfl
theorem lv1 {a0 : Sl} {l : En} {d : List D} : lstAt (a0 :: .val (.list d) :: l) 1 = some d := noRfl rfl
theorem me1 {a0 : Sl} {l : En} {d : List D} : mutL (a0 :: .ext d :: l) 1 = some d := noRfl rfl
theorem pe1 {a0 : Sl} {l : En} {d x : List D} : putL (a0 :: .ext d :: l) 1 x = some (a0 :: .ext x :: l) := noRfl rfl
theorem le1 {a0 : Sl} {l : En} {d : List D} : lstAt (a0 :: .ext d :: l) 1 = some d := noRfl rfl
theorem nm2 {a0 a1 : Sl} {l : En} {d : D} : eNm 2 (a0 :: a1 :: .val d :: l) = some (d, a0 :: a1 :: .val d :: l) := noRfl rfl
theorem no2 {a0 a1 : Sl} {l : En} {d : List D} : eNm 2 (a0 :: a1 :: .own d :: l) = some (.list d, a0 :: a1 :: .val (.list d) :: l) := noRfl rfl
theorem svu2 {a0 a1 : Sl} {l : En} {x : D} : setv (a0 :: a1 :: .un :: l) 2 x = some (a0 :: a1 :: .val x :: l) := noRfl rfl
theorem svv2 {a0 a1 : Sl} {l : En} {d x : D} : setv (a0 :: a1 :: .val d :: l) 2 x = some (a0 :: a1 :: .val x :: l) := noRfl rfl
theorem svo2 {a0 a1 : Sl} {l : En} {d : List D} {x : D} : setv (a0 :: a1 :: .own d :: l) 2 x = some (a0 :: a1 :: .val x :: l) := noRfl rfl
theorem sou2 {a0 a1 : Sl} {l : En} {x : List D} : seto (a0 :: a1 :: .un :: l) 2 x = some (a0 :: a1 :: .own x :: l) := noRfl rfl
theorem sov2 {a0 a1 : Sl} {l : En} {d : D} {x : List D} : seto (a0 :: a1 :: .val d :: l) 2 x = some (a0 :: a1 :: .own x :: l) := noRfl rfl
theorem soo2 {a0 a1 : Sl} {l : En} {d x : List D} : seto (a0 :: a1 :: .own d :: l) 2 x = some (a0 :: a1 :: .own x :: l) := noRfl rfl
theorem st2 {a0 a1 : Sl} {l : En} {s x : Sl} : (a0 :: a1 :: s :: l).set 2 x = a0 :: a1 :: x :: l := noRfl rfl
theorem gt2 {a0 a1 : Sl} {l : En} {s : Sl} : (a0 :: a1 :: s :: l)[2]? = some s := noRfl rfl
theorem mo2 {a0 a1 : Sl} {l : En} {d : List D} : mutL (a0 :: a1 :: .own d :: l) 2 = some d := noRfl rfl
theorem po2 {a0 a1 : Sl} {l : En} {d x : List D} : putL (a0 :: a1 :: .own d :: l) 2 x = some (a0 :: a1 :: .own x :: l) := noRfl rfl
theorem la2 {a0 a1 : Sl} {l : En} {d : List D} : lstAt (a0 :: a1 :: .own d :: l) 2 = some d := noRfl rfl
theorem lv2 {a0 a1 : Sl} {l : En} {d : List D} : lstAt (a0 :: a1 :: .val (.list d) :: l) 2 = some d := noRfl rfl
theorem me2 {a0 a1 : Sl} {l : En} {d : List D} : mutL (a0 :: a1 :: .ext d :: l) 2 = some d := noRfl rfl
theorem pe2 {a0 a1 : Sl} {l : En} {d x : List D} : putL (a0 :: a1 :: .ext d :: l) 2 x = some (a0 :: a1 :: .ext x :: l) := noRfl rfl
theorem le2 {a0 a1 : Sl} {l : En} {d : List D} : lstAt (a0 :: a1 :: .ext d :: l) 2 = some d := noRfl rfl
theorem nm3 {a0 a1 a2 : Sl} {l : En} {d : D} : eNm 3 (a0 :: a1 :: a2 :: .val d :: l) = some (d, a0 :: a1 :: a2 :: .val d :: l) := noRfl rfl
theorem no3 {a0 a1 a2 : Sl} {l : En} {d : List D} : eNm 3 (a0 :: a1 :: a2 :: .own d :: l) = some (.list d, a0 :: a1 :: a2 :: .val (.list d) :: l) := noRfl rfl
theorem svu3 {a0 a1 a2 : Sl} {l : En} {x : D} : setv (a0 :: a1 :: a2 :: .un :: l) 3 x = some (a0 :: a1 :: a2 :: .val x :: l) := noRfl rfl
theorem svv3 {a0 a1 a2 : Sl} {l : En} {d x : D} : setv (a0 :: a1 :: a2 :: .val d :: l) 3 x = some (a0 :: a1 :: a2 :: .val x :: l) := noRfl rfl
theorem svo3 {a0 a1 a2 : Sl} {l : En} {d : List D} {x : D} : setv (a0 :: a1 :: a2 :: .own d :: l) 3 x = some (a0 :: a1 :: a2 :: .val x :: l) := noRfl rfl
theorem sou3 {a0 a1 a2 : Sl} {l : En} {x : List D} : seto (a0 :: a1 :: a2 :: .un :: l) 3 x = some (a0 :: a1 :: a2 :: .own x :: l) := noRfl rfl
theorem sov3 {a0 a1 a2 : Sl} {l : En} {d : D} {x : List D} : seto (a0 :: a1 :: a2 :: .val d :: l) 3 x = some (a0 :: a1 :: a2 :: .own x :: l) := noRfl rfl
theorem soo3 {a0 a1 a2 : Sl} {l : En} {d x : List D} : seto (a0 :: a1 :: a2 :: .own d :: l) 3 x = some (a0 :: a1 :: a2 :: .own x :: l) := noRfl rfl
theorem st3 {a0 a1 a2 : Sl} {l : En} {s x : Sl} : (a0 :: a1 :: a2 :: s :: l).set 3 x = a0 :: a1 :: a2 :: x :: l := noRfl rfl
theorem gt3 {a0 a1 a2 : Sl} {l : En} {s : Sl} : (a0 :: a1 :: a2 :: s :: l)[3]? = some s := noRfl rfl
theorem mo3 {a0 a1 a2 : Sl} {l : En} {d : List D} : mutL (a0 :: a1 :: a2 :: .own d :: l) 3 = some d := noRfl rfl
theorem po3 {a0 a1 a2 : Sl} {l : En} {d x : List D} : putL (a0 :: a1 :: a2 :: .own d :: l) 3 x = some (a0 :: a1 :: a2 :: .own x :: l) := noRfl rfl
theorem la3 {a0 a1 a2 : Sl} {l : En} {d : List D} : lstAt (a0 :: a1 :: a2 :: .own d :: l) 3 = some d := noRfl rfl
theorem lv3 {a0 a1 a2 : Sl} {l : En} {d : List D} : lstAt (a0 :: a1 :: a2 :: .val (.list d) :: l) 3 = some d := noRfl rfl
theorem nm4 {a0 a1 a2 a3 : Sl} {l : En} {d : D} : eNm 4 (a0 :: a1 :: a2 :: a3 :: .val d :: l) = some (d, a0 :: a1 :: a2 :: a3 :: .val d :: l) := noRfl rfl
theorem no4 {a0 a1 a2 a3 : Sl} {l : En} {d : List D} : eNm 4 (a0 :: a1 :: a2 :: a3 :: .own d :: l) = some (.list d, a0 :: a1 :: a2 :: a3 :: .val (.list d) :: l) := noRfl rfl
theorem svu4 {a0 a1 a2 a3 : Sl} {l : En} {x : D} : setv (a0 :: a1 :: a2 :: a3 :: .un :: l) 4 x = some (a0 :: a1 :: a2 :: a3 :: .val x :: l) := noRfl rfl
theorem svv4 {a0 a1 a2 a3 : Sl} {l : En} {d x : D} : setv (a0 :: a1 :: a2 :: a3 :: .val d :: l) 4 x = some (a0 :: a1 :: a2 :: a3 :: .val x :: l) := noRfl rfl
theorem svo4 {a0 a1 a2 a3 : Sl} {l : En} {d : List D} {x : D} : setv (a0 :: a1 :: a2 :: a3 :: .own d :: l) 4 x = some (a0 :: a1 :: a2 :: a3 :: .val x :: l) := noRfl rfl
theorem sou4 {a0 a1 a2 a3 : Sl} {l : En} {x : List D} : seto (a0 :: a1 :: a2 :: a3 :: .un :: l) 4 x = some (a0 :: a1 :: a2 :: a3 :: .own x :: l) := noRfl rfl
theorem sov4 {a0 a1 a2 a3 : Sl} {l : En} {d : D} {x : List D} : seto (a0 :: a1 :: a2 :: a3 :: .val d :: l) 4 x = some (a0 :: a1 :: a2 :: a3 :: .own x :: l) := noRfl rfl
theorem soo4 {a0 a1 a2 a3 : Sl} {l : En} {d x : List D} : seto (a0 :: a1 :: a2 :: a3 :: .own d :: l) 4 x = some (a0 :: a1 :: a2 :: a3 :: .own x :: l) := noRfl rfl
theorem st4 {a0 a1 a2 a3 : Sl} {l : En} {s x : Sl} : (a0 :: a1 :: a2 :: a3 :: s :: l).set 4 x = a0 :: a1 :: a2 :: a3 :: x :: l := noRfl rfl
theorem gt4 {a0 a1 a2 a3 : Sl} {l : En} {s : Sl} : (a0 :: a1 :: a2 :: a3 :: s :: l)[4]? = some s := noRfl rfl
theorem mo4 {a0 a1 a2 a3 : Sl} {l : En} {d : List D} : mutL (a0 :: a1 :: a2 :: a3 :: .own d :: l) 4 = some d := noRfl rfl
theorem po4 {a0 a1 a2 a3 : Sl} {l : En} {d x : List D} : putL (a0 :: a1 :: a2 :: a3 :: .own d :: l) 4 x = some (a0 :: a1 :: a2 :: a3 :: .own x :: l) := noRfl rfl
theorem la4 {a0 a1 a2 a3 : Sl} {l : En} {d : List D} : lstAt (a0 :: a1 :: a2 :: a3 :: .own d :: l) 4 = some d := noRfl rfl
theorem lv4 {a0 a1 a2 a3 : Sl} {l : En} {d : List D} : lstAt (a0 :: a1 :: a2 :: a3 :: .val (.list d) :: l) 4 = some d := noRfl rfl
theorem nm5 {a0 a1 a2 a3 a4 : Sl} {l : En} {d : D} : eNm 5 (a0 :: a1 :: a2 :: a3 :: a4 :: .val d :: l) = some (d, a0 :: a1 :: a2 :: a3 :: a4 :: .val d :: l) := noRfl rfl
theorem no5 {a0 a1 a2 a3 a4 : Sl} {l : En} {d : List D} : eNm 5 (a0 :: a1 :: a2 :: a3 :: a4 :: .own d :: l) = some (.list d, a0 :: a1 :: a2 :: a3 :: a4 :: .val (.list d) :: l) := noRfl rfl
theorem svu5 {a0 a1 a2 a3 a4 : Sl} {l : En} {x : D} : setv (a0 :: a1 :: a2 :: a3 :: a4 :: .un :: l) 5 x = some (a0 :: a1 :: a2 :: a3 :: a4 :: .val x :: l) := noRfl rfl
theorem svv5 {a0 a1 a2 a3 a4 : Sl} {l : En} {d x : D} : setv (a0 :: a1 :: a2 :: a3 :: a4 :: .val d :: l) 5 x = some (a0 :: a1 :: a2 :: a3 :: a4 :: .val x :: l) := noRfl rfl
theorem svo5 {a0 a1 a2 a3 a4 : Sl} {l : En} {d : List D} {x : D} : setv (a0 :: a1 :: a2 :: a3 :: a4 :: .own d :: l) 5 x = some (a0 :: a1 :: a2 :: a3 :: a4 :: .val x :: l) := noRfl rfl
theorem sou5 {a0 a1 a2 a3 a4 : Sl} {l : En} {x : List D} : seto (a0 :: a1 :: a2 :: a3 :: a4 :: .un :: l) 5 x = some (a0 :: a1 :: a2 :: a3 :: a4 :: .own x :: l) := noRfl rfl
theorem sov5 {a0 a1 a2 a3 a4 : Sl} {l : En} {d : D} {x : List D} : seto (a0 :: a1 :: a2 :: a3 :: a4 :: .val d :: l) 5 x = some (a0 :: a1 :: a2 :: a3 :: a4 :: .own x :: l) := noRfl rfl
theorem soo5 {a0 a1 a2 a3 a4 : Sl} {l : En} {d x : List D} : seto (a0 :: a1 :: a2 :: a3 :: a4 :: .own d :: l) 5 x = some (a0 :: a1 :: a2 :: a3 :: a4 :: .own x :: l) := noRfl rfl
theorem st5 {a0 a1 a2 a3 a4 : Sl} {l : En} {s x : Sl} : (a0 :: a1 :: a2 :: a3 :: a4 :: s :: l).set 5 x = a0 :: a1 :: a2 :: a3 :: a4 :: x :: l := noRfl rfl
theorem gt5 {a0 a1 a2 a3 a4 : Sl} {l : En} {s : Sl} : (a0 :: a1 :: a2 :: a3 :: a4 :: s :: l)[5]? = some s := noRfl rfl
theorem mo5 {a0 a1 a2 a3 a4 : Sl} {l : En} {d : List D} : mutL (a0 :: a1 :: a2 :: a3 :: a4 :: .own d :: l) 5 = some d := noRfl rfl
theorem po5 {a0 a1 a2 a3 a4 : Sl} {l : En} {d x : List D} : putL (a0 :: a1 :: a2 :: a3 :: a4 :: .own d :: l) 5 x = some (a0 :: a1 :: a2 :: a3 :: a4 :: .own x :: l) := noRfl rfl
theorem la5 {a0 a1 a2 a3 a4 : Sl} {l : En} {d : List D} : lstAt (a0 :: a1 :: a2 :: a3 :: a4 :: .own d :: l) 5 = some d := noRfl rfl
theorem lv5 {a0 a1 a2 a3 a4 : Sl} {l : En} {d : List D} : lstAt (a0 :: a1 :: a2 :: a3 :: a4 :: .val (.list d) :: l) 5 = some d := noRfl rfl
theorem nm6 {a0 a1 a2 a3 a4 a5 : Sl} {l : En} {d : D} : eNm 6 (a0 :: a1 :: a2 :: a3 :: a4 :: a5 :: .val d :: l) = some (d, a0 :: a1 :: a2 :: a3 :: a4 :: a5 :: .val d :: l) := noRfl rfl
theorem no6 {a0 a1 a2 a3 a4 a5 : Sl} {l : En} {d : List D} : eNm 6 (a0 :: a1 :: a2 :: a3 :: a4 :: a5 :: .own d :: l) = some (.list d, a0 :: a1 :: a2 :: a3 :: a4 :: a5 :: .val (.list d) :: l) := noRfl rfl
theorem svu6 {a0 a1 a2 a3 a4 a5 : Sl} {l : En} {x : D} : setv (a0 :: a1 :: a2 :: a3 :: a4 :: a5 :: .un :: l) 6 x = some (a0 :: a1 :: a2 :: a3 :: a4 :: a5 :: .val x :: l) := noRfl rfl
theorem svv6 {a0 a1 a2 a3 a4 a5 : Sl} {l : En} {d x : D} : setv (a0 :: a1 :: a2 :: a3 :: a4 :: a5 :: .val d :: l) 6 x = some (a0 :: a1 :: a2 :: a3 :: a4 :: a5 :: .val x :: l) := noRfl rfl
theorem svo6 {a0 a1 a2 a3 a4 a5 : Sl} {l : En} {d : List D} {x : D} : setv (a0 :: a1 :: a2 :: a3 :: a4 :: a5 :: .own d :: l) 6 x = some (a0 :: a1 :: a2 :: a3 :: a4 :: a5 :: .val x :: l) := noRfl rfl
theorem sou6 {a0 a1 a2 a3 a4 a5 : Sl} {l : En} {x : List D} : seto (a0 :: a1 :: a2 :: a3 :: a4 :: a5 :: .un :: l) 6 x = some (a0 :: a1 :: a2 :: a3 :: a4 :: a5 :: .own x :: l) := noRfl rfl
theorem sov6 {a0 a1 a2 a3 a4 a5 : Sl} {l : En} {d : D} {x : List D} : seto (a0 :: a1 :: a2 :: a3 :: a4 :: a5 :: .val d :: l) 6 x = some (a0 :: a1 :: a2 :: a3 :: a4 :: a5 :: .own x :: l) := noRfl rfl
theorem soo6 {a0 a1 a2 a3 a4 a5 : Sl} {l : En} {d x : List D} : seto (a0 :: a1 :: a2 :: a3 :: a4 :: a5 :: .own d :: l) 6 x = some (a0 :: a1 :: a2 :: a3 :: a4 :: a5 :: .own x :: l) := noRfl rfl
theorem st6 {a0 a1 a2 a3 a4 a5 : Sl} {l : En} {s x : Sl} : (a0 :: a1 :: a2 :: a3 :: a4 :: a5 :: s :: l).set 6 x = a0 :: a1 :: a2 :: a3 :: a4 :: a5 :: x :: l := noRfl rfl
theorem gt6 {a0 a1 a2 a3 a4 a5 : Sl} {l : En} {s : Sl} : (a0 :: a1 :: a2 :: a3 :: a4 :: a5 :: s :: l)[6]? = some s := noRfl rfl
theorem mo6 {a0 a1 a2 a3 a4 a5 : Sl} {l : En} {d : List D} : mutL (a0 :: a1 :: a2 :: a3 :: a4 :: a5 :: .own d :: l) 6 = some d := noRfl rfl
theorem po6 {a0 a1 a2 a3 a4 a5 : Sl} {l : En} {d x : List D} : putL (a0 :: a1 :: a2 :: a3 :: a4 :: a5 :: .own d :: l) 6 x = some (a0 :: a1 :: a2 :: a3 :: a4 :: a5 :: .own x :: l) := noRfl rfl
theorem la6 {a0 a1 a2 a3 a4 a5 : Sl} {l : En} {d : List D} : lstAt (a0 :: a1 :: a2 :: a3 :: a4 :: a5 :: .own d :: l) 6 = some d := noRfl rfl
theorem lv6 {a0 a1 a2 a3 a4 a5 : Sl} {l : En} {d : List D} : lstAt (a0 :: a1 :: a2 :: a3 :: a4 :: a5 :: .val (.list d) :: l) 6 = some d := noRfl rfl
theorem nm7 {a0 a1 a2 a3 a4 a5 a6 : Sl} {l : En} {d : D} : eNm 7 (a0 :: a1 :: a2 :: a3 :: a4 :: a5 :: a6 :: .val d :: l) = some (d, a0 :: a1 :: a2 :: a3 :: a4 :: a5 :: a6 :: .val d :: l) := noRfl rfl
theorem no7 {a0 a1 a2 a3 a4 a5 a6 : Sl} {l : En} {d : List D} : eNm 7 (a0 :: a1 :: a2 :: a3 :: a4 :: a5 :: a6 :: .own d :: l) = some (.list d, a0 :: a1 :: a2 :: a3 :: a4 :: a5 :: a6 :: .val (.list d) :: l) := noRfl rfl
theorem svu7 {a0 a1 a2 a3 a4 a5 a6 : Sl} {l : En} {x : D} : setv (a0 :: a1 :: a2 :: a3 :: a4 :: a5 :: a6 :: .un :: l) 7 x = some (a0 :: a1 :: a2 :: a3 :: a4 :: a5 :: a6 :: .val x :: l) := noRfl rfl
theorem svv7 {a0 a1 a2 a3 a4 a5 a6 : Sl} {l : En} {d x : D} : setv (a0 :: a1 :: a2 :: a3 :: a4 :: a5 :: a6 :: .val d :: l) 7 x = some (a0 :: a1 :: a2 :: a3 :: a4 :: a5 :: a6 :: .val x :: l) := noRfl rfl
theorem svo7 {a0 a1 a2 a3 a4 a5 a6 : Sl} {l : En} {d : List D} {x : D} : setv (a0 :: a1 :: a2 :: a3 :: a4 :: a5 :: a6 :: .own d :: l) 7 x = some (a0 :: a1 :: a2 :: a3 :: a4 :: a5 :: a6 :: .val x :: l) := noRfl rfl
theorem sou7 {a0 a1 a2 a3 a4 a5 a6 : Sl} {l : En} {x : List D} : seto (a0 :: a1 :: a2 :: a3 :: a4 :: a5 :: a6 :: .un :: l) 7 x = some (a0 :: a1 :: a2 :: a3 :: a4 :: a5 :: a6 :: .own x :: l) := noRfl rfl
theorem sov7 {a0 a1 a2 a3 a4 a5 a6 : Sl} {l : En} {d : D} {x : List D} : seto (a0 :: a1 :: a2 :: a3 :: a4 :: a5 :: a6 :: .val d :: l) 7 x = some (a0 :: a1 :: a2 :: a3 :: a4 :: a5 :: a6 :: .own x :: l) := noRfl rfl
theorem soo7 {a0 a1 a2 a3 a4 a5 a6 : Sl} {l : En} {d x : List D} : seto (a0 :: a1 :: a2 :: a3 :: a4 :: a5 :: a6 :: .own d :: l) 7 x = some (a0 :: a1 :: a2 :: a3 :: a4 :: a5 :: a6 :: .own x :: l) := noRfl rfl
theorem st7 {a0 a1 a2 a3 a4 a5 a6 : Sl} {l : En} {s x : Sl} : (a0 :: a1 :: a2 :: a3 :: a4 :: a5 :: a6 :: s :: l).set 7 x = a0 :: a1 :: a2 :: a3 :: a4 :: a5 :: a6 :: x :: l := noRfl rfl
theorem gt7 {a0 a1 a2 a3 a4 a5 a6 : Sl} {l : En} {s : Sl} : (a0 :: a1 :: a2 :: a3 :: a4 :: a5 :: a6 :: s :: l)[7]? = some s := noRfl rfl
theorem mo7 {a0 a1 a2 a3 a4 a5 a6 : Sl} {l : En} {d : List D} : mutL (a0 :: a1 :: a2 :: a3 :: a4 :: a5 :: a6 :: .own d :: l) 7 = some d := noRfl rfl
theorem po7 {a0 a1 a2 a3 a4 a5 a6 : Sl} {l : En} {d x : List D} : putL (a0 :: a1 :: a2 :: a3 :: a4 :: a5 :: a6 :: .own d :: l) 7 x = some (a0 :: a1 :: a2 :: a3 :: a4 :: a5 :: a6 :: .own x :: l) := noRfl rfl
theorem la7 {a0 a1 a2 a3 a4 a5 a6 : Sl} {l : En} {d : List D} : lstAt (a0 :: a1 :: a2 :: a3 :: a4 :: a5 :: a6 :: .own d :: l) 7 = some d := noRfl rfl
theorem lv7 {a0 a1 a2 a3 a4 a5 a6 : Sl} {l : En} {d : List D} : lstAt (a0 :: a1 :: a2 :: a3 :: a4 :: a5 :: a6 :: .val (.list d) :: l) 7 = some d := noRfl rfl
theorem nm8 {a0 a1 a2 a3 a4 a5 a6 a7 : Sl} {l : En} {d : D} : eNm 8 (a0 :: a1 :: a2 :: a3 :: a4 :: a5 :: a6 :: a7 :: .val d :: l) = some (d, a0 :: a1 :: a2 :: a3 :: a4 :: a5 :: a6 :: a7 :: .val d :: l) := noRfl rfl
theorem no8 {a0 a1 a2 a3 a4 a5 a6 a7 : Sl} {l : En} {d : List D} : eNm 8 (a0 :: a1 :: a2 :: a3 :: a4 :: a5 :: a6 :: a7 :: .own d :: l) = some (.list d, a0 :: a1 :: a2 :: a3 :: a4 :: a5 :: a6 :: a7 :: .val (.list d) :: l) := noRfl rfl
theorem svu8 {a0 a1 a2 a3 a4 a5 a6 a7 : Sl} {l : En} {x : D} : setv (a0 :: a1 :: a2 :: a3 :: a4 :: a5 :: a6 :: a7 :: .un :: l) 8 x = some (a0 :: a1 :: a2 :: a3 :: a4 :: a5 :: a6 :: a7 :: .val x :: l) := noRfl rfl
theorem svv8 {a0 a1 a2 a3 a4 a5 a6 a7 : Sl} {l : En} {d x : D} : setv (a0 :: a1 :: a2 :: a3 :: a4 :: a5 :: a6 :: a7 :: .val d :: l) 8 x = some (a0 :: a1 :: a2 :: a3 :: a4 :: a5 :: a6 :: a7 :: .val x :: l) := noRfl rfl
theorem svo8 {a0 a1 a2 a3 a4 a5 a6 a7 : Sl} {l : En} {d : List D} {x : D} : setv (a0 :: a1 :: a2 :: a3 :: a4 :: a5 :: a6 :: a7 :: .own d :: l) 8 x = some (a0 :: a1 :: a2 :: a3 :: a4 :: a5 :: a6 :: a7 :: .val x :: l) := noRfl rfl
theorem sou8 {a0 a1 a2 a3 a4 a5 a6 a7 : Sl} {l : En} {x : List D} : seto (a0 :: a1 :: a2 :: a3 :: a4 :: a5 :: a6 :: a7 :: .un :: l) 8 x = some (a0 :: a1 :: a2 :: a3 :: a4 :: a5 :: a6 :: a7 :: .own x :: l) := noRfl rfl
theorem sov8 {a0 a1 a2 a3 a4 a5 a6 a7 : Sl} {l : En} {d : D} {x : List D} : seto (a0 :: a1 :: a2 :: a3 :: a4 :: a5 :: a6 :: a7 :: .val d :: l) 8 x = some (a0 :: a1 :: a2 :: a3 :: a4 :: a5 :: a6 :: a7 :: .own x :: l) := noRfl rfl
theorem soo8 {a0 a1 a2 a3 a4 a5 a6 a7 : Sl} {l : En} {d x : List D} : seto (a0 :: a1 :: a2 :: a3 :: a4 :: a5 :: a6 :: a7 :: .own d :: l) 8 x = some (a0 :: a1 :: a2 :: a3 :: a4 :: a5 :: a6 :: a7 :: .own x :: l) := noRfl rfl
theorem st8 {a0 a1 a2 a3 a4 a5 a6 a7 : Sl} {l : En} {s x : Sl} : (a0 :: a1 :: a2 :: a3 :: a4 :: a5 :: a6 :: a7 :: s :: l).set 8 x = a0 :: a1 :: a2 :: a3 :: a4 :: a5 :: a6 :: a7 :: x :: l := noRfl rfl
theorem gt8 {a0 a1 a2 a3 a4 a5 a6 a7 : Sl} {l : En} {s : Sl} : (a0 :: a1 :: a2 :: a3 :: a4 :: a5 :: a6 :: a7 :: s :: l)[8]? = some s := noRfl rfl
theorem mo8 {a0 a1 a2 a3 a4 a5 a6 a7 : Sl} {l : En} {d : List D} : mutL (a0 :: a1 :: a2 :: a3 :: a4 :: a5 :: a6 :: a7 :: .own d :: l) 8 = some d := noRfl rfl
theorem po8 {a0 a1 a2 a3 a4 a5 a6 a7 : Sl} {l : En} {d x : List D} : putL (a0 :: a1 :: a2 :: a3 :: a4 :: a5 :: a6 :: a7 :: .own d :: l) 8 x = some (a0 :: a1 :: a2 :: a3 :: a4 :: a5 :: a6 :: a7 :: .own x :: l) := noRfl rfl
theorem la8 {a0 a1 a2 a3 a4 a5 a6 a7 : Sl} {l : En} {d : List D} : lstAt (a0 :: a1 :: a2 :: a3 :: a4 :: a5 :: a6 :: a7 :: .own d :: l) 8 = some d := noRfl rfl
theorem lv8 {a0 a1 a2 a3 a4 a5 a6 a7 : Sl} {l : En} {d : List D} : lstAt (a0 :: a1 :: a2 :: a3 :: a4 :: a5 :: a6 :: a7 :: .val (.list d) :: l) 8 = some d := noRfl rfl
theorem nm9 {a0 a1 a2 a3 a4 a5 a6 a7 a8 : Sl} {l : En} {d : D} : eNm 9 (a0 :: a1 :: a2 :: a3 :: a4 :: a5 :: a6 :: a7 :: a8 :: .val d :: l) = some (d, a0 :: a1 :: a2 :: a3 :: a4 :: a5 :: a6 :: a7 :: a8 :: .val d :: l) := noRfl rfl
theorem no9 {a0 a1 a2 a3 a4 a5 a6 a7 a8 : Sl} {l : En} {d : List D} : eNm 9 (a0 :: a1 :: a2 :: a3 :: a4 :: a5 :: a6 :: a7 :: a8 :: .own d :: l) = some (.list d, a0 :: a1 :: a2 :: a3 :: a4 :: a5 :: a6 :: a7 :: a8 :: .val (.list d) :: l) := noRfl rfl
theorem svu9 {a0 a1 a2 a3 a4 a5 a6 a7 a8 : Sl} {l : En} {x : D} : setv (a0 :: a1 :: a2 :: a3 :: a4 :: a5 :: a6 :: a7 :: a8 :: .un :: l) 9 x = some (a0 :: a1 :: a2 :: a3 :: a4 :: a5 :: a6 :: a7 :: a8 :: .val x :: l) := noRfl rfl
theorem svv9 {a0 a1 a2 a3 a4 a5 a6 a7 a8 : Sl} {l : En} {d x : D} : setv (a0 :: a1 :: a2 :: a3 :: a4 :: a5 :: a6 :: a7 :: a8 :: .val d :: l) 9 x = some (a0 :: a1 :: a2 :: a3 :: a4 :: a5 :: a6 :: a7 :: a8 :: .val x :: l) := noRfl rfl
theorem svo9 {a0 a1 a2 a3 a4 a5 a6 a7 a8 : Sl} {l : En} {d : List D} {x : D} : setv (a0 :: a1 :: a2 :: a3 :: a4 :: a5 :: a6 :: a7 :: a8 :: .own d :: l) 9 x = some (a0 :: a1 :: a2 :: a3 :: a4 :: a5 :: a6 :: a7 :: a8 :: .val x :: l) := noRfl rfl
theorem sou9 {a0 a1 a2 a3 a4 a5 a6 a7 a8 : Sl} {l : En} {x : List D} : seto (a0 :: a1 :: a2 :: a3 :: a4 :: a5 :: a6 :: a7 :: a8 :: .un :: l) 9 x = some (a0 :: a1 :: a2 :: a3 :: a4 :: a5 :: a6 :: a7 :: a8 :: .own x :: l) := noRfl rfl
theorem sov9 {a0 a1 a2 a3 a4 a5 a6 a7 a8 : Sl} {l : En} {d : D} {x : List D} : seto (a0 :: a1 :: a2 :: a3 :: a4 :: a5 :: a6 :: a7 :: a8 :: .val d :: l) 9 x = some (a0 :: a1 :: a2 :: a3 :: a4 :: a5 :: a6 :: a7 :: a8 :: .own x :: l) := noRfl rfl
theorem soo9 {a0 a1 a2 a3 a4 a5 a6 a7 a8 : Sl} {l : En} {d x : List D} : seto (a0 :: a1 :: a2 :: a3 :: a4 :: a5 :: a6 :: a7 :: a8 :: .own d :: l) 9 x = some (a0 :: a1 :: a2 :: a3 :: a4 :: a5 :: a6 :: a7 :: a8 :: .own x :: l) := noRfl rfl
theorem st9 {a0 a1 a2 a3 a4 a5 a6 a7 a8 : Sl} {l : En} {s x : Sl} : (a0 :: a1 :: a2 :: a3 :: a4 :: a5 :: a6 :: a7 :: a8 :: s :: l).set 9 x = a0 :: a1 :: a2 :: a3 :: a4 :: a5 :: a6 :: a7 :: a8 :: x :: l := noRfl rfl
theorem gt9 {a0 a1 a2 a3 a4 a5 a6 a7 a8 : Sl} {l : En} {s : Sl} : (a0 :: a1 :: a2 :: a3 :: a4 :: a5 :: a6 :: a7 :: a8 :: s :: l)[9]? = some s := noRfl rfl
theorem mo9 {a0 a1 a2 a3 a4 a5 a6 a7 a8 : Sl} {l : En} {d : List D} : mutL (a0 :: a1 :: a2 :: a3 :: a4 :: a5 :: a6 :: a7 :: a8 :: .own d :: l) 9 = some d := noRfl rfl
theorem po9 {a0 a1 a2 a3 a4 a5 a6 a7 a8 : Sl} {l : En} {d x : List D} : putL (a0 :: a1 :: a2 :: a3 :: a4 :: a5 :: a6 :: a7 :: a8 :: .own d :: l) 9 x = some (a0 :: a1 :: a2 :: a3 :: a4 :: a5 :: a6 :: a7 :: a8 :: .own x :: l) := noRfl rfl
theorem la9 {a0 a1 a2 a3 a4 a5 a6 a7 a8 : Sl} {l : En} {d : List D} : lstAt (a0 :: a1 :: a2 :: a3 :: a4 :: a5 :: a6 :: a7 :: a8 :: .own d :: l) 9 = some d := noRfl rfl
theorem lv9 {a0 a1 a2 a3 a4 a5 a6 a7 a8 : Sl} {l : En} {d : List D} : lstAt (a0 :: a1 :: a2 :: a3 :: a4 :: a5 :: a6 :: a7 :: a8 :: .val (.list d) :: l) 9 = some d := noRfl rfl
theorem nm10 {a0 a1 a2 a3 a4 a5 a6 a7 a8 a9 : Sl} {l : En} {d : D} : eNm 10 (a0 :: a1 :: a2 :: a3 :: a4 :: a5 :: a6 :: a7 :: a8 :: a9 :: .val d :: l) = some (d, a0 :: a1 :: a2 :: a3 :: a4 :: a5 :: a6 :: a7 :: a8 :: a9 :: .val d :: l) := noRfl rfl
theorem no10 {a0 a1 a2 a3 a4 a5 a6 a7 a8 a9 : Sl} {l : En} {d : List D} : eNm 10 (a0 :: a1 :: a2 :: a3 :: a4 :: a5 :: a6 :: a7 :: a8 :: a9 :: .own d :: l) = some (.list d, a0 :: a1 :: a2 :: a3 :: a4 :: a5 :: a6 :: a7 :: a8 :: a9 :: .val (.list d) :: l) := noRfl rfl
theorem svu10 {a0 a1 a2 a3 a4 a5 a6 a7 a8 a9 : Sl} {l : En} {x : D} : setv (a0 :: a1 :: a2 :: a3 :: a4 :: a5 :: a6 :: a7 :: a8 :: a9 :: .un :: l) 10 x = some (a0 :: a1 :: a2 :: a3 :: a4 :: a5 :: a6 :: a7 :: a8 :: a9 :: .val x :: l) := noRfl rfl
theorem svv10 {a0 a1 a2 a3 a4 a5 a6 a7 a8 a9 : Sl} {l : En} {d x : D} : setv (a0 :: a1 :: a2 :: a3 :: a4 :: a5 :: a6 :: a7 :: a8 :: a9 :: .val d :: l) 10 x = some (a0 :: a1 :: a2 :: a3 :: a4 :: a5 :: a6 :: a7 :: a8 :: a9 :: .val x :: l) := noRfl rfl
theorem svo10 {a0 a1 a2 a3 a4 a5 a6 a7 a8 a9 : Sl} {l : En} {d : List D} {x : D} : setv (a0 :: a1 :: a2 :: a3 :: a4 :: a5 :: a6 :: a7 :: a8 :: a9 :: .own d :: l) 10 x = some (a0 :: a1 :: a2 :: a3 :: a4 :: a5 :: a6 :: a7 :: a8 :: a9 :: .val x :: l) := noRfl rfl
theorem sou10 {a0 a1 a2 a3 a4 a5 a6 a7 a8 a9 : Sl} {l : En} {x : List D} : seto (a0 :: a1 :: a2 :: a3 :: a4 :: a5 :: a6 :: a7 :: a8 :: a9 :: .un :: l) 10 x = some (a0 :: a1 :: a2 :: a3 :: a4 :: a5 :: a6 :: a7 :: a8 :: a9 :: .own x :: l) := noRfl rfl
theorem sov10 {a0 a1 a2 a3 a4 a5 a6 a7 a8 a9 : Sl} {l : En} {d : D} {x : List D} : seto (a0 :: a1 :: a2 :: a3 :: a4 :: a5 :: a6 :: a7 :: a8 :: a9 :: .val d :: l) 10 x = some (a0 :: a1 :: a2 :: a3 :: a4 :: a5 :: a6 :: a7 :: a8 :: a9 :: .own x :: l) := noRfl rfl
theorem soo10 {a0 a1 a2 a3 a4 a5 a6 a7 a8 a9 : Sl} {l : En} {d x : List D} : seto (a0 :: a1 :: a2 :: a3 :: a4 :: a5 :: a6 :: a7 :: a8 :: a9 :: .own d :: l) 10 x = some (a0 :: a1 :: a2 :: a3 :: a4 :: a5 :: a6 :: a7 :: a8 :: a9 :: .own x :: l) := noRfl rfl
theorem st10 {a0 a1 a2 a3 a4 a5 a6 a7 a8 a9 : Sl} {l : En} {s x : Sl} : (a0 :: a1 :: a2 :: a3 :: a4 :: a5 :: a6 :: a7 :: a8 :: a9 :: s :: l).set 10 x = a0 :: a1 :: a2 :: a3 :: a4 :: a5 :: a6 :: a7 :: a8 :: a9 :: x :: l := noRfl rfl
theorem gt10 {a0 a1 a2 a3 a4 a5 a6 a7 a8 a9 : Sl} {l : En} {s : Sl} : (a0 :: a1 :: a2 :: a3 :: a4 :: a5 :: a6 :: a7 :: a8 :: a9 :: s :: l)[10]? = some s := noRfl rfl
theorem mo10 {a0 a1 a2 a3 a4 a5 a6 a7 a8 a9 : Sl} {l : En} {d : List D} : mutL (a0 :: a1 :: a2 :: a3 :: a4 :: a5 :: a6 :: a7 :: a8 :: a9 :: .own d :: l) 10 = some d := noRfl rfl
theorem po10 {a0 a1 a2 a3 a4 a5 a6 a7 a8 a9 : Sl} {l : En} {d x : List D} : putL (a0 :: a1 :: a2 :: a3 :: a4 :: a5 :: a6 :: a7 :: a8 :: a9 :: .own d :: l) 10 x = some (a0 :: a1 :: a2 :: a3 :: a4 :: a5 :: a6 :: a7 :: a8 :: a9 :: .own x :: l) := noRfl rfl
theorem la10 {a0 a1 a2 a3 a4 a5 a6 a7 a8 a9 : Sl} {l : En} {d : List D} : lstAt (a0 :: a1 :: a2 :: a3 :: a4 :: a5 :: a6 :: a7 :: a8 :: a9 :: .own d :: l) 10 = some d := noRfl rfl
theorem lv10 {a0 a1 a2 a3 a4 a5 a6 a7 a8 a9 : Sl} {l : En} {d : List D} : lstAt (a0 :: a1 :: a2 :: a3 :: a4 :: a5 :: a6 :: a7 :: a8 :: a9 :: .val (.list d) :: l) 10 = some d := noRfl rfl
theorem nm11 {a0 a1 a2 a3 a4 a5 a6 a7 a8 a9 a10 : Sl} {l : En} {d : D} : eNm 11 (a0 :: a1 :: a2 :: a3 :: a4 :: a5 :: a6 :: a7 :: a8 :: a9 :: a10 :: .val d :: l) = some (d, a0 :: a1 :: a2 :: a3 :: a4 :: a5 :: a6 :: a7 :: a8 :: a9 :: a10 :: .val d :: l) := noRfl rfl
theorem no11 {a0 a1 a2 a3 a4 a5 a6 a7 a8 a9 a10 : Sl} {l : En} {d : List D} : eNm 11 (a0 :: a1 :: a2 :: a3 :: a4 :: a5 :: a6 :: a7 :: a8 :: a9 :: a10 :: .own d :: l) = some (.list d, a0 :: a1 :: a2 :: a3 :: a4 :: a5 :: a6 :: a7 :: a8 :: a9 :: a10 :: .val (.list d) :: l) := noRfl rfl
theorem svu11 {a0 a1 a2 a3 a4 a5 a6 a7 a8 a9 a10 : Sl} {l : En} {x : D} : setv (a0 :: a1 :: a2 :: a3 :: a4 :: a5 :: a6 :: a7 :: a8 :: a9 :: a10 :: .un :: l) 11 x = some (a0 :: a1 :: a2 :: a3 :: a4 :: a5 :: a6 :: a7 :: a8 :: a9 :: a10 :: .val x :: l) := noRfl rfl
theorem svv11 {a0 a1 a2 a3 a4 a5 a6 a7 a8 a9 a10 : Sl} {l : En} {d x : D} : setv (a0 :: a1 :: a2 :: a3 :: a4 :: a5 :: a6 :: a7 :: a8 :: a9 :: a10 :: .val d :: l) 11 x = some (a0 :: a1 :: a2 :: a3 :: a4 :: a5 :: a6 :: a7 :: a8 :: a9 :: a10 :: .val x :: l) := noRfl rfl
theorem svo11 {a0 a1 a2 a3 a4 a5 a6 a7 a8 a9 a10 : Sl} {l : En} {d : List D} {x : D} : setv (a0 :: a1 :: a2 :: a3 :: a4 :: a5 :: a6 :: a7 :: a8 :: a9 :: a10 :: .own d :: l) 11 x = some (a0 :: a1 :: a2 :: a3 :: a4 :: a5 :: a6 :: a7 :: a8 :: a9 :: a10 :: .val x :: l) := noRfl rfl
theorem sou11 {a0 a1 a2 a3 a4 a5 a6 a7 a8 a9 a10 : Sl} {l : En} {x : List D} : seto (a0 :: a1 :: a2 :: a3 :: a4 :: a5 :: a6 :: a7 :: a8 :: a9 :: a10 :: .un :: l) 11 x = some (a0 :: a1 :: a2 :: a3 :: a4 :: a5 :: a6 :: a7 :: a8 :: a9 :: a10 :: .own x :: l) := noRfl rfl
theorem sov11 {a0 a1 a2 a3 a4 a5 a6 a7 a8 a9 a10 : Sl} {l : En} {d : D} {x : List D} : seto (a0 :: a1 :: a2 :: a3 :: a4 :: a5 :: a6 :: a7 :: a8 :: a9 :: a10 :: .val d :: l) 11 x = some (a0 :: a1 :: a2 :: a3 :: a4 :: a5 :: a6 :: a7 :: a8 :: a9 :: a10 :: .own x :: l) := noRfl rfl
theorem soo11 {a0 a1 a2 a3 a4 a5 a6 a7 a8 a9 a10 : Sl} {l : En} {d x : List D} : seto (a0 :: a1 :: a2 :: a3 :: a4 :: a5 :: a6 :: a7 :: a8 :: a9 :: a10 :: .own d :: l) 11 x = some (a0 :: a1 :: a2 :: a3 :: a4 :: a5 :: a6 :: a7 :: a8 :: a9 :: a10 :: .own x :: l) := noRfl rfl
theorem st11 {a0 a1 a2 a3 a4 a5 a6 a7 a8 a9 a10 : Sl} {l : En} {s x : Sl} : (a0 :: a1 :: a2 :: a3 :: a4 :: a5 :: a6 :: a7 :: a8 :: a9 :: a10 :: s :: l).set 11 x = a0 :: a1 :: a2 :: a3 :: a4 :: a5 :: a6 :: a7 :: a8 :: a9 :: a10 :: x :: l := noRfl rfl
theorem gt11 {a0 a1 a2 a3 a4 a5 a6 a7 a8 a9 a10 : Sl} {l : En} {s : Sl} : (a0 :: a1 :: a2 :: a3 :: a4 :: a5 :: a6 :: a7 :: a8 :: a9 :: a10 :: s :: l)[11]? = some s := noRfl rfl
theorem mo11 {a0 a1 a2 a3 a4 a5 a6 a7 a8 a9 a10 : Sl} {l : En} {d : List D} : mutL (a0 :: a1 :: a2 :: a3 :: a4 :: a5 :: a6 :: a7 :: a8 :: a9 :: a10 :: .own d :: l) 11 = some d := noRfl rfl
theorem po11 {a0 a1 a2 a3 a4 a5 a6 a7 a8 a9 a10 : Sl} {l : En} {d x : List D} : putL (a0 :: a1 :: a2 :: a3 :: a4 :: a5 :: a6 :: a7 :: a8 :: a9 :: a10 :: .own d :: l) 11 x = some (a0 :: a1 :: a2 :: a3 :: a4 :: a5 :: a6 :: a7 :: a8 :: a9 :: a10 :: .own x :: l) := noRfl rfl
theorem la11 {a0 a1 a2 a3 a4 a5 a6 a7 a8 a9 a10 : Sl} {l : En} {d : List D} : lstAt (a0 :: a1 :: a2 :: a3 :: a4 :: a5 :: a6 :: a7 :: a8 :: a9 :: a10 :: .own d :: l) 11 = some d := noRfl rfl
theorem lv11 {a0 a1 a2 a3 a4 a5 a6 a7 a8 a9 a10 : Sl} {l : En} {d : List D} : lstAt (a0 :: a1 :: a2 :: a3 :: a4 :: a5 :: a6 :: a7 :: a8 :: a9 :: a10 :: .val (.list d) :: l) 11 = some d := noRfl rfl
theorem nm12 {a0 a1 a2 a3 a4 a5 a6 a7 a8 a9 a10 a11 : Sl} {l : En} {d : D} : eNm 12 (a0 :: a1 :: a2 :: a3 :: a4 :: a5 :: a6 :: a7 :: a8 :: a9 :: a10 :: a11 :: .val d :: l) = some (d, a0 :: a1 :: a2 :: a3 :: a4 :: a5 :: a6 :: a7 :: a8 :: a9 :: a10 :: a11 :: .val d :: l) := noRfl rfl
theorem no12 {a0 a1 a2 a3 a4 a5 a6 a7 a8 a9 a10 a11 : Sl} {l : En} {d : List D} : eNm 12 (a0 :: a1 :: a2 :: a3 :: a4 :: a5 :: a6 :: a7 :: a8 :: a9 :: a10 :: a11 :: .own d :: l) = some (.list d, a0 :: a1 :: a2 :: a3 :: a4 :: a5 :: a6 :: a7 :: a8 :: a9 :: a10 :: a11 :: .val (.list d) :: l) := noRfl rfl
theorem svu12 {a0 a1 a2 a3 a4 a5 a6 a7 a8 a9 a10 a11 : Sl} {l : En} {x : D} : setv (a0 :: a1 :: a2 :: a3 :: a4 :: a5 :: a6 :: a7 :: a8 :: a9 :: a10 :: a11 :: .un :: l) 12 x = some (a0 :: a1 :: a2 :: a3 :: a4 :: a5 :: a6 :: a7 :: a8 :: a9 :: a10 :: a11 :: .val x :: l) := noRfl rfl
theorem svv12 {a0 a1 a2 a3 a4 a5 a6 a7 a8 a9 a10 a11 : Sl} {l : En} {d x : D} : setv (a0 :: a1 :: a2 :: a3 :: a4 :: a5 :: a6 :: a7 :: a8 :: a9 :: a10 :: a11 :: .val d :: l) 12 x = some (a0 :: a1 :: a2 :: a3 :: a4 :: a5 :: a6 :: a7 :: a8 :: a9 :: a10 :: a11 :: .val x :: l) := noRfl rfl
theorem svo12 {a0 a1 a2 a3 a4 a5 a6 a7 a8 a9 a10 a11 : Sl} {l : En} {d : List D} {x : D} : setv (a0 :: a1 :: a2 :: a3 :: a4 :: a5 :: a6 :: a7 :: a8 :: a9 :: a10 :: a11 :: .own d :: l) 12 x = some (a0 :: a1 :: a2 :: a3 :: a4 :: a5 :: a6 :: a7 :: a8 :: a9 :: a10 :: a11 :: .val x :: l) := noRfl rfl
theorem sou12 {a0 a1 a2 a3 a4 a5 a6 a7 a8 a9 a10 a11 : Sl} {l : En} {x : List D} : seto (a0 :: a1 :: a2 :: a3 :: a4 :: a5 :: a6 :: a7 :: a8 :: a9 :: a10 :: a11 :: .un :: l) 12 x = some (a0 :: a1 :: a2 :: a3 :: a4 :: a5 :: a6 :: a7 :: a8 :: a9 :: a10 :: a11 :: .own x :: l) := noRfl rfl
theorem sov12 {a0 a1 a2 a3 a4 a5 a6 a7 a8 a9 a10 a11 : Sl} {l : En} {d : D} {x : List D} : seto (a0 :: a1 :: a2 :: a3 :: a4 :: a5 :: a6 :: a7 :: a8 :: a9 :: a10 :: a11 :: .val d :: l) 12 x = some (a0 :: a1 :: a2 :: a3 :: a4 :: a5 :: a6 :: a7 :: a8 :: a9 :: a10 :: a11 :: .own x :: l) := noRfl rfl
theorem soo12 {a0 a1 a2 a3 a4 a5 a6 a7 a8 a9 a10 a11 : Sl} {l : En} {d x : List D} : seto (a0 :: a1 :: a2 :: a3 :: a4 :: a5 :: a6 :: a7 :: a8 :: a9 :: a10 :: a11 :: .own d :: l) 12 x = some (a0 :: a1 :: a2 :: a3 :: a4 :: a5 :: a6 :: a7 :: a8 :: a9 :: a10 :: a11 :: .own x :: l) := noRfl rfl
theorem st12 {a0 a1 a2 a3 a4 a5 a6 a7 a8 a9 a10 a11 : Sl} {l : En} {s x : Sl} : (a0 :: a1 :: a2 :: a3 :: a4 :: a5 :: a6 :: a7 :: a8 :: a9 :: a10 :: a11 :: s :: l).set 12 x = a0 :: a1 :: a2 :: a3 :: a4 :: a5 :: a6 :: a7 :: a8 :: a9 :: a10 :: a11 :: x :: l := noRfl rfl
theorem gt12 {a0 a1 a2 a3 a4 a5 a6 a7 a8 a9 a10 a11 : Sl} {l : En} {s : Sl} : (a0 :: a1 :: a2 :: a3 :: a4 :: a5 :: a6 :: a7 :: a8 :: a9 :: a10 :: a11 :: s :: l)[12]? = some s := noRfl rfl
theorem mo12 {a0 a1 a2 a3 a4 a5 a6 a7 a8 a9 a10 a11 : Sl} {l : En} {d : List D} : mutL (a0 :: a1 :: a2 :: a3 :: a4 :: a5 :: a6 :: a7 :: a8 :: a9 :: a10 :: a11 :: .own d :: l) 12 = some d := noRfl rfl
theorem po12 {a0 a1 a2 a3 a4 a5 a6 a7 a8 a9 a10 a11 : Sl} {l : En} {d x : List D} : putL (a0 :: a1 :: a2 :: a3 :: a4 :: a5 :: a6 :: a7 :: a8 :: a9 :: a10 :: a11 :: .own d :: l) 12 x = some (a0 :: a1 :: a2 :: a3 :: a4 :: a5 :: a6 :: a7 :: a8 :: a9 :: a10 :: a11 :: .own x :: l) := noRfl rfl
theorem la12 {a0 a1 a2 a3 a4 a5 a6 a7 a8 a9 a10 a11 : Sl} {l : En} {d : List D} : lstAt (a0 :: a1 :: a2 :: a3 :: a4 :: a5 :: a6 :: a7 :: a8 :: a9 :: a10 :: a11 :: .own d :: l) 12 = some d := noRfl rfl
theorem lv12 {a0 a1 a2 a3 a4 a5 a6 a7 a8 a9 a10 a11 : Sl} {l : En} {d : List D} : lstAt (a0 :: a1 :: a2 :: a3 :: a4 :: a5 :: a6 :: a7 :: a8 :: a9 :: a10 :: a11 :: .val (.list d) :: l) 12 = some d := noRfl rfl
theorem nm13 {a0 a1 a2 a3 a4 a5 a6 a7 a8 a9 a10 a11 a12 : Sl} {l : En} {d : D} : eNm 13 (a0 :: a1 :: a2 :: a3 :: a4 :: a5 :: a6 :: a7 :: a8 :: a9 :: a10 :: a11 :: a12 :: .val d :: l) = some (d, a0 :: a1 :: a2 :: a3 :: a4 :: a5 :: a6 :: a7 :: a8 :: a9 :: a10 :: a11 :: a12 :: .val d :: l) := noRfl rfl
theorem no13 {a0 a1 a2 a3 a4 a5 a6 a7 a8 a9 a10 a11 a12 : Sl} {l : En} {d : List D} : eNm 13 (a0 :: a1 :: a2 :: a3 :: a4 :: a5 :: a6 :: a7 :: a8 :: a9 :: a10 :: a11 :: a12 :: .own d :: l) = some (.list d, a0 :: a1 :: a2 :: a3 :: a4 :: a5 :: a6 :: a7 :: a8 :: a9 :: a10 :: a11 :: a12 :: .val (.list d) :: l) := noRfl rfl
theorem svu13 {a0 a1 a2 a3 a4 a5 a6 a7 a8 a9 a10 a11 a12 : Sl} {l : En} {x : D} : setv (a0 :: a1 :: a2 :: a3 :: a4 :: a5 :: a6 :: a7 :: a8 :: a9 :: a10 :: a11 :: a12 :: .un :: l) 13 x = some (a0 :: a1 :: a2 :: a3 :: a4 :: a5 :: a6 :: a7 :: a8 :: a9 :: a10 :: a11 :: a12 :: .val x :: l) := noRfl rfl
theorem svv13 {a0 a1 a2 a3 a4 a5 a6 a7 a8 a9 a10 a11 a12 : Sl} {l : En} {d x : D} : setv (a0 :: a1 :: a2 :: a3 :: a4 :: a5 :: a6 :: a7 :: a8 :: a9 :: a10 :: a11 :: a12 :: .val d :: l) 13 x = some (a0 :: a1 :: a2 :: a3 :: a4 :: a5 :: a6 :: a7 :: a8 :: a9 :: a10 :: a11 :: a12 :: .val x :: l) := noRfl rfl
theorem svo13 {a0 a1 a2 a3 a4 a5 a6 a7 a8 a9 a10 a11 a12 : Sl} {l : En} {d : List D} {x : D} : setv (a0 :: a1 :: a2 :: a3 :: a4 :: a5 :: a6 :: a7 :: a8 :: a9 :: a10 :: a11 :: a12 :: .own d :: l) 13 x = some (a0 :: a1 :: a2 :: a3 :: a4 :: a5 :: a6 :: a7 :: a8 :: a9 :: a10 :: a11 :: a12 :: .val x :: l) := noRfl rfl
theorem sou13 {a0 a1 a2 a3 a4 a5 a6 a7 a8 a9 a10 a11 a12 : Sl} {l : En} {x : List D} : seto (a0 :: a1 :: a2 :: a3 :: a4 :: a5 :: a6 :: a7 :: a8 :: a9 :: a10 :: a11 :: a12 :: .un :: l) 13 x = some (a0 :: a1 :: a2 :: a3 :: a4 :: a5 :: a6 :: a7 :: a8 :: a9 :: a10 :: a11 :: a12 :: .own x :: l) := noRfl rfl
theorem sov13 {a0 a1 a2 a3 a4 a5 a6 a7 a8 a9 a10 a11 a12 : Sl} {l : En} {d : D} {x : List D} : seto (a0 :: a1 :: a2 :: a3 :: a4 :: a5 :: a6 :: a7 :: a8 :: a9 :: a10 :: a11 :: a12 :: .val d :: l) 13 x = some (a0 :: a1 :: a2 :: a3 :: a4 :: a5 :: a6 :: a7 :: a8 :: a9 :: a10 :: a11 :: a12 :: .own x :: l) := noRfl rfl
theorem soo13 {a0 a1 a2 a3 a4 a5 a6 a7 a8 a9 a10 a11 a12 : Sl} {l : En} {d x : List D} : seto (a0 :: a1 :: a2 :: a3 :: a4 :: a5 :: a6 :: a7 :: a8 :: a9 :: a10 :: a11 :: a12 :: .own d :: l) 13 x = some (a0 :: a1 :: a2 :: a3 :: a4 :: a5 :: a6 :: a7 :: a8 :: a9 :: a10 :: a11 :: a12 :: .own x :: l) := noRfl rfl
theorem st13 {a0 a1 a2 a3 a4 a5 a6 a7 a8 a9 a10 a11 a12 : Sl} {l : En} {s x : Sl} : (a0 :: a1 :: a2 :: a3 :: a4 :: a5 :: a6 :: a7 :: a8 :: a9 :: a10 :: a11 :: a12 :: s :: l).set 13 x = a0 :: a1 :: a2 :: a3 :: a4 :: a5 :: a6 :: a7 :: a8 :: a9 :: a10 :: a11 :: a12 :: x :: l := noRfl rfl
theorem gt13 {a0 a1 a2 a3 a4 a5 a6 a7 a8 a9 a10 a11 a12 : Sl} {l : En} {s : Sl} : (a0 :: a1 :: a2 :: a3 :: a4 :: a5 :: a6 :: a7 :: a8 :: a9 :: a10 :: a11 :: a12 :: s :: l)[13]? = some s := noRfl rfl
theorem mo13 {a0 a1 a2 a3 a4 a5 a6 a7 a8 a9 a10 a11 a12 : Sl} {l : En} {d : List D} : mutL (a0 :: a1 :: a2 :: a3 :: a4 :: a5 :: a6 :: a7 :: a8 :: a9 :: a10 :: a11 :: a12 :: .own d :: l) 13 = some d := noRfl rfl
theorem po13 {a0 a1 a2 a3 a4 a5 a6 a7 a8 a9 a10 a11 a12 : Sl} {l : En} {d x : List D} : putL (a0 :: a1 :: a2 :: a3 :: a4 :: a5 :: a6 :: a7 :: a8 :: a9 :: a10 :: a11 :: a12 :: .own d :: l) 13 x = some (a0 :: a1 :: a2 :: a3 :: a4 :: a5 :: a6 :: a7 :: a8 :: a9 :: a10 :: a11 :: a12 :: .own x :: l) := noRfl rfl
theorem la13 {a0 a1 a2 a3 a4 a5 a6 a7 a8 a9 a10 a11 a12 : Sl} {l : En} {d : List D} : lstAt (a0 :: a1 :: a2 :: a3 :: a4 :: a5 :: a6 :: a7 :: a8 :: a9 :: a10 :: a11 :: a12 :: .own d :: l) 13 = some d := noRfl rfl
theorem lv13 {a0 a1 a2 a3 a4 a5 a6 a7 a8 a9 a10 a11 a12 : Sl} {l : En} {d : List D} : lstAt (a0 :: a1 :: a2 :: a3 :: a4 :: a5 :: a6 :: a7 :: a8 :: a9 :: a10 :: a11 :: a12 :: .val (.list d) :: l) 13 = some d := noRfl rfl
theorem nm14 {a0 a1 a2 a3 a4 a5 a6 a7 a8 a9 a10 a11 a12 a13 : Sl} {l : En} {d : D} : eNm 14 (a0 :: a1 :: a2 :: a3 :: a4 :: a5 :: a6 :: a7 :: a8 :: a9 :: a10 :: a11 :: a12 :: a13 :: .val d :: l) = some (d, a0 :: a1 :: a2 :: a3 :: a4 :: a5 :: a6 :: a7 :: a8 :: a9 :: a10 :: a11 :: a12 :: a13 :: .val d :: l) := noRfl rfl
theorem no14 {a0 a1 a2 a3 a4 a5 a6 a7 a8 a9 a10 a11 a12 a13 : Sl} {l : En} {d : List D} : eNm 14 (a0 :: a1 :: a2 :: a3 :: a4 :: a5 :: a6 :: a7 :: a8 :: a9 :: a10 :: a11 :: a12 :: a13 :: .own d :: l) = some (.list d, a0 :: a1 :: a2 :: a3 :: a4 :: a5 :: a6 :: a7 :: a8 :: a9 :: a10 :: a11 :: a12 :: a13 :: .val (.list d) :: l) := noRfl rfl
theorem svu14 {a0 a1 a2 a3 a4 a5 a6 a7 a8 a9 a10 a11 a12 a13 : Sl} {l : En} {x : D} : setv (a0 :: a1 :: a2 :: a3 :: a4 :: a5 :: a6 :: a7 :: a8 :: a9 :: a10 :: a11 :: a12 :: a13 :: .un :: l) 14 x = some (a0 :: a1 :: a2 :: a3 :: a4 :: a5 :: a6 :: a7 :: a8 :: a9 :: a10 :: a11 :: a12 :: a13 :: .val x :: l) := noRfl rfl
theorem svv14 {a0 a1 a2 a3 a4 a5 a6 a7 a8 a9 a10 a11 a12 a13 : Sl} {l : En} {d x : D} : setv (a0 :: a1 :: a2 :: a3 :: a4 :: a5 :: a6 :: a7 :: a8 :: a9 :: a10 :: a11 :: a12 :: a13 :: .val d :: l) 14 x = some (a0 :: a1 :: a2 :: a3 :: a4 :: a5 :: a6 :: a7 :: a8 :: a9 :: a10 :: a11 :: a12 :: a13 :: .val x :: l) := noRfl rfl
theorem svo14 {a0 a1 a2 a3 a4 a5 a6 a7 a8 a9 a10 a11 a12 a13 : Sl} {l : En} {d : List D} {x : D} : setv (a0 :: a1 :: a2 :: a3 :: a4 :: a5 :: a6 :: a7 :: a8 :: a9 :: a10 :: a11 :: a12 :: a13 :: .own d :: l) 14 x = some (a0 :: a1 :: a2 :: a3 :: a4 :: a5 :: a6 :: a7 :: a8 :: a9 :: a10 :: a11 :: a12 :: a13 :: .val x :: l) := noRfl rfl
theorem sou14 {a0 a1 a2 a3 a4 a5 a6 a7 a8 a9 a10 a11 a12 a13 : Sl} {l : En} {x : List D} : seto (a0 :: a1 :: a2 :: a3 :: a4 :: a5 :: a6 :: a7 :: a8 :: a9 :: a10 :: a11 :: a12 :: a13 :: .un :: l) 14 x = some (a0 :: a1 :: a2 :: a3 :: a4 :: a5 :: a6 :: a7 :: a8 :: a9 :: a10 :: a11 :: a12 :: a13 :: .own x :: l) := noRfl rfl
theorem sov14 {a0 a1 a2 a3 a4 a5 a6 a7 a8 a9 a10 a11 a12 a13 : Sl} {l : En} {d : D} {x : List D} : seto (a0 :: a1 :: a2 :: a3 :: a4 :: a5 :: a6 :: a7 :: a8 :: a9 :: a10 :: a11 :: a12 :: a13 :: .val d :: l) 14 x = some (a0 :: a1 :: a2 :: a3 :: a4 :: a5 :: a6 :: a7 :: a8 :: a9 :: a10 :: a11 :: a12 :: a13 :: .own x :: l) := noRfl rfl
theorem soo14 {a0 a1 a2 a3 a4 a5 a6 a7 a8 a9 a10 a11 a12 a13 : Sl} {l : En} {d x : List D} : seto (a0 :: a1 :: a2 :: a3 :: a4 :: a5 :: a6 :: a7 :: a8 :: a9 :: a10 :: a11 :: a12 :: a13 :: .own d :: l) 14 x = some (a0 :: a1 :: a2 :: a3 :: a4 :: a5 :: a6 :: a7 :: a8 :: a9 :: a10 :: a11 :: a12 :: a13 :: .own x :: l) := noRfl rfl
theorem st14 {a0 a1 a2 a3 a4 a5 a6 a7 a8 a9 a10 a11 a12 a13 : Sl} {l : En} {s x : Sl} : (a0 :: a1 :: a2 :: a3 :: a4 :: a5 :: a6 :: a7 :: a8 :: a9 :: a10 :: a11 :: a12 :: a13 :: s :: l).set 14 x = a0 :: a1 :: a2 :: a3 :: a4 :: a5 :: a6 :: a7 :: a8 :: a9 :: a10 :: a11 :: a12 :: a13 :: x :: l := noRfl rfl
theorem gt14 {a0 a1 a2 a3 a4 a5 a6 a7 a8 a9 a10 a11 a12 a13 : Sl} {l : En} {s : Sl} : (a0 :: a1 :: a2 :: a3 :: a4 :: a5 :: a6 :: a7 :: a8 :: a9 :: a10 :: a11 :: a12 :: a13 :: s :: l)[14]? = some s := noRfl rfl
theorem mo14 {a0 a1 a2 a3 a4 a5 a6 a7 a8 a9 a10 a11 a12 a13 : Sl} {l : En} {d : List D} : mutL (a0 :: a1 :: a2 :: a3 :: a4 :: a5 :: a6 :: a7 :: a8 :: a9 :: a10 :: a11 :: a12 :: a13 :: .own d :: l) 14 = some d := noRfl rfl
theorem po14 {a0 a1 a2 a3 a4 a5 a6 a7 a8 a9 a10 a11 a12 a13 : Sl} {l : En} {d x : List D} : putL (a0 :: a1 :: a2 :: a3 :: a4 :: a5 :: a6 :: a7 :: a8 :: a9 :: a10 :: a11 :: a12 :: a13 :: .own d :: l) 14 x = some (a0 :: a1 :: a2 :: a3 :: a4 :: a5 :: a6 :: a7 :: a8 :: a9 :: a10 :: a11 :: a12 :: a13 :: .own x :: l) := noRfl rfl
theorem la14 {a0 a1 a2 a3 a4 a5 a6 a7 a8 a9 a10 a11 a12 a13 : Sl} {l : En} {d : List D} : lstAt (a0 :: a1 :: a2 :: a3 :: a4 :: a5 :: a6 :: a7 :: a8 :: a9 :: a10 :: a11 :: a12 :: a13 :: .own d :: l) 14 = some d := noRfl rfl
theorem lv14 {a0 a1 a2 a3 a4 a5 a6 a7 a8 a9 a10 a11 a12 a13 : Sl} {l : En} {d : List D} : lstAt (a0 :: a1 :: a2 :: a3 :: a4 :: a5 :: a6 :: a7 :: a8 :: a9 :: a10 :: a11 :: a12 :: a13 :: .val (.list d) :: l) 14 = some d := noRfl rfl
theorem nm15 {a0 a1 a2 a3 a4 a5 a6 a7 a8 a9 a10 a11 a12 a13 a14 : Sl} {l : En} {d : D} : eNm 15 (a0 :: a1 :: a2 :: a3 :: a4 :: a5 :: a6 :: a7 :: a8 :: a9 :: a10 :: a11 :: a12 :: a13 :: a14 :: .val d :: l) = some (d, a0 :: a1 :: a2 :: a3 :: a4 :: a5 :: a6 :: a7 :: a8 :: a9 :: a10 :: a11 :: a12 :: a13 :: a14 :: .val d :: l) := noRfl rfl
theorem no15 {a0 a1 a2 a3 a4 a5 a6 a7 a8 a9 a10 a11 a12 a13 a14 : Sl} {l : En} {d : List D} : eNm 15 (a0 :: a1 :: a2 :: a3 :: a4 :: a5 :: a6 :: a7 :: a8 :: a9 :: a10 :: a11 :: a12 :: a13 :: a14 :: .own d :: l) = some (.list d, a0 :: a1 :: a2 :: a3 :: a4 :: a5 :: a6 :: a7 :: a8 :: a9 :: a10 :: a11 :: a12 :: a13 :: a14 :: .val (.list d) :: l) := noRfl rfl
theorem svu15 {a0 a1 a2 a3 a4 a5 a6 a7 a8 a9 a10 a11 a12 a13 a14 : Sl} {l : En} {x : D} : setv (a0 :: a1 :: a2 :: a3 :: a4 :: a5 :: a6 :: a7 :: a8 :: a9 :: a10 :: a11 :: a12 :: a13 :: a14 :: .un :: l) 15 x = some (a0 :: a1 :: a2 :: a3 :: a4 :: a5 :: a6 :: a7 :: a8 :: a9 :: a10 :: a11 :: a12 :: a13 :: a14 :: .val x :: l) := noRfl rfl
theorem svv15 {a0 a1 a2 a3 a4 a5 a6 a7 a8 a9 a10 a11 a12 a13 a14 : Sl} {l : En} {d x : D} : setv (a0 :: a1 :: a2 :: a3 :: a4 :: a5 :: a6 :: a7 :: a8 :: a9 :: a10 :: a11 :: a12 :: a13 :: a14 :: .val d :: l) 15 x = some (a0 :: a1 :: a2 :: a3 :: a4 :: a5 :: a6 :: a7 :: a8 :: a9 :: a10 :: a11 :: a12 :: a13 :: a14 :: .val x :: l) := noRfl rfl
theorem svo15 {a0 a1 a2 a3 a4 a5 a6 a7 a8 a9 a10 a11 a12 a13 a14 : Sl} {l : En} {d : List D} {x : D} : setv (a0 :: a1 :: a2 :: a3 :: a4 :: a5 :: a6 :: a7 :: a8 :: a9 :: a10 :: a11 :: a12 :: a13 :: a14 :: .own d :: l) 15 x = some (a0 :: a1 :: a2 :: a3 :: a4 :: a5 :: a6 :: a7 :: a8 :: a9 :: a10 :: a11 :: a12 :: a13 :: a14 :: .val x :: l) := noRfl rfl
theorem sou15 {a0 a1 a2 a3 a4 a5 a6 a7 a8 a9 a10 a11 a12 a13 a14 : Sl} {l : En} {x : List D} : seto (a0 :: a1 :: a2 :: a3 :: a4 :: a5 :: a6 :: a7 :: a8 :: a9 :: a10 :: a11 :: a12 :: a13 :: a14 :: .un :: l) 15 x = some (a0 :: a1 :: a2 :: a3 :: a4 :: a5 :: a6 :: a7 :: a8 :: a9 :: a10 :: a11 :: a12 :: a13 :: a14 :: .own x :: l) := noRfl rfl
theorem sov15 {a0 a1 a2 a3 a4 a5 a6 a7 a8 a9 a10 a11 a12 a13 a14 : Sl} {l : En} {d : D} {x : List D} : seto (a0 :: a1 :: a2 :: a3 :: a4 :: a5 :: a6 :: a7 :: a8 :: a9 :: a10 :: a11 :: a12 :: a13 :: a14 :: .val d :: l) 15 x = some (a0 :: a1 :: a2 :: a3 :: a4 :: a5 :: a6 :: a7 :: a8 :: a9 :: a10 :: a11 :: a12 :: a13 :: a14 :: .own x :: l) := noRfl rfl
theorem soo15 {a0 a1 a2 a3 a4 a5 a6 a7 a8 a9 a10 a11 a12 a13 a14 : Sl} {l : En} {d x : List D} : seto (a0 :: a1 :: a2 :: a3 :: a4 :: a5 :: a6 :: a7 :: a8 :: a9 :: a10 :: a11 :: a12 :: a13 :: a14 :: .own d :: l) 15 x = some (a0 :: a1 :: a2 :: a3 :: a4 :: a5 :: a6 :: a7 :: a8 :: a9 :: a10 :: a11 :: a12 :: a13 :: a14 :: .own x :: l) := noRfl rfl
theorem st15 {a0 a1 a2 a3 a4 a5 a6 a7 a8 a9 a10 a11 a12 a13 a14 : Sl} {l : En} {s x : Sl} : (a0 :: a1 :: a2 :: a3 :: a4 :: a5 :: a6 :: a7 :: a8 :: a9 :: a10 :: a11 :: a12 :: a13 :: a14 :: s :: l).set 15 x = a0 :: a1 :: a2 :: a3 :: a4 :: a5 :: a6 :: a7 :: a8 :: a9 :: a10 :: a11 :: a12 :: a13 :: a14 :: x :: l := noRfl rfl
theorem gt15 {a0 a1 a2 a3 a4 a5 a6 a7 a8 a9 a10 a11 a12 a13 a14 : Sl} {l : En} {s : Sl} : (a0 :: a1 :: a2 :: a3 :: a4 :: a5 :: a6 :: a7 :: a8 :: a9 :: a10 :: a11 :: a12 :: a13 :: a14 :: s :: l)[15]? = some s := noRfl rfl
theorem mo15 {a0 a1 a2 a3 a4 a5 a6 a7 a8 a9 a10 a11 a12 a13 a14 : Sl} {l : En} {d : List D} : mutL (a0 :: a1 :: a2 :: a3 :: a4 :: a5 :: a6 :: a7 :: a8 :: a9 :: a10 :: a11 :: a12 :: a13 :: a14 :: .own d :: l) 15 = some d := noRfl rfl
theorem po15 {a0 a1 a2 a3 a4 a5 a6 a7 a8 a9 a10 a11 a12 a13 a14 : Sl} {l : En} {d x : List D} : putL (a0 :: a1 :: a2 :: a3 :: a4 :: a5 :: a6 :: a7 :: a8 :: a9 :: a10 :: a11 :: a12 :: a13 :: a14 :: .own d :: l) 15 x = some (a0 :: a1 :: a2 :: a3 :: a4 :: a5 :: a6 :: a7 :: a8 :: a9 :: a10 :: a11 :: a12 :: a13 :: a14 :: .own x :: l) := noRfl rfl
theorem la15 {a0 a1 a2 a3 a4 a5 a6 a7 a8 a9 a10 a11 a12 a13 a14 : Sl} {l : En} {d : List D} : lstAt (a0 :: a1 :: a2 :: a3 :: a4 :: a5 :: a6 :: a7 :: a8 :: a9 :: a10 :: a11 :: a12 :: a13 :: a14 :: .own d :: l) 15 = some d := noRfl rfl
theorem lv15 {a0 a1 a2 a3 a4 a5 a6 a7 a8 a9 a10 a11 a12 a13 a14 : Sl} {l : En} {d : List D} : lstAt (a0 :: a1 :: a2 :: a3 :: a4 :: a5 :: a6 :: a7 :: a8 :: a9 :: a10 :: a11 :: a12 :: a13 :: a14 :: .val (.list d) :: l) 15 = some d := noRfl rfl
theorem nm16 {a0 a1 a2 a3 a4 a5 a6 a7 a8 a9 a10 a11 a12 a13 a14 a15 : Sl} {l : En} {d : D} : eNm 16 (a0 :: a1 :: a2 :: a3 :: a4 :: a5 :: a6 :: a7 :: a8 :: a9 :: a10 :: a11 :: a12 :: a13 :: a14 :: a15 :: .val d :: l) = some (d, a0 :: a1 :: a2 :: a3 :: a4 :: a5 :: a6 :: a7 :: a8 :: a9 :: a10 :: a11 :: a12 :: a13 :: a14 :: a15 :: .val d :: l) := noRfl rfl
theorem no16 {a0 a1 a2 a3 a4 a5 a6 a7 a8 a9 a10 a11 a12 a13 a14 a15 : Sl} {l : En} {d : List D} : eNm 16 (a0 :: a1 :: a2 :: a3 :: a4 :: a5 :: a6 :: a7 :: a8 :: a9 :: a10 :: a11 :: a12 :: a13 :: a14 :: a15 :: .own d :: l) = some (.list d, a0 :: a1 :: a2 :: a3 :: a4 :: a5 :: a6 :: a7 :: a8 :: a9 :: a10 :: a11 :: a12 :: a13 :: a14 :: a15 :: .val (.list d) :: l) := noRfl rfl
theorem svu16 {a0 a1 a2 a3 a4 a5 a6 a7 a8 a9 a10 a11 a12 a13 a14 a15 : Sl} {l : En} {x : D} : setv (a0 :: a1 :: a2 :: a3 :: a4 :: a5 :: a6 :: a7 :: a8 :: a9 :: a10 :: a11 :: a12 :: a13 :: a14 :: a15 :: .un :: l) 16 x = some (a0 :: a1 :: a2 :: a3 :: a4 :: a5 :: a6 :: a7 :: a8 :: a9 :: a10 :: a11 :: a12 :: a13 :: a14 :: a15 :: .val x :: l) := noRfl rfl
theorem svv16 {a0 a1 a2 a3 a4 a5 a6 a7 a8 a9 a10 a11 a12 a13 a14 a15 : Sl} {l : En} {d x : D} : setv (a0 :: a1 :: a2 :: a3 :: a4 :: a5 :: a6 :: a7 :: a8 :: a9 :: a10 :: a11 :: a12 :: a13 :: a14 :: a15 :: .val d :: l) 16 x = some (a0 :: a1 :: a2 :: a3 :: a4 :: a5 :: a6 :: a7 :: a8 :: a9 :: a10 :: a11 :: a12 :: a13 :: a14 :: a15 :: .val x :: l) := noRfl rfl
theorem svo16 {a0 a1 a2 a3 a4 a5 a6 a7 a8 a9 a10 a11 a12 a13 a14 a15 : Sl} {l : En} {d : List D} {x : D} : setv (a0 :: a1 :: a2 :: a3 :: a4 :: a5 :: a6 :: a7 :: a8 :: a9 :: a10 :: a11 :: a12 :: a13 :: a14 :: a15 :: .own d :: l) 16 x = some (a0 :: a1 :: a2 :: a3 :: a4 :: a5 :: a6 :: a7 :: a8 :: a9 :: a10 :: a11 :: a12 :: a13 :: a14 :: a15 :: .val x :: l) := noRfl rfl
theorem sou16 {a0 a1 a2 a3 a4 a5 a6 a7 a8 a9 a10 a11 a12 a13 a14 a15 : Sl} {l : En} {x : List D} : seto (a0 :: a1 :: a2 :: a3 :: a4 :: a5 :: a6 :: a7 :: a8 :: a9 :: a10 :: a11 :: a12 :: a13 :: a14 :: a15 :: .un :: l) 16 x = some (a0 :: a1 :: a2 :: a3 :: a4 :: a5 :: a6 :: a7 :: a8 :: a9 :: a10 :: a11 :: a12 :: a13 :: a14 :: a15 :: .own x :: l) := noRfl rfl
theorem sov16 {a0 a1 a2 a3 a4 a5 a6 a7 a8 a9 a10 a11 a12 a13 a14 a15 : Sl} {l : En} {d : D} {x : List D} : seto (a0 :: a1 :: a2 :: a3 :: a4 :: a5 :: a6 :: a7 :: a8 :: a9 :: a10 :: a11 :: a12 :: a13 :: a14 :: a15 :: .val d :: l) 16 x = some (a0 :: a1 :: a2 :: a3 :: a4 :: a5 :: a6 :: a7 :: a8 :: a9 :: a10 :: a11 :: a12 :: a13 :: a14 :: a15 :: .own x :: l) := noRfl rfl
theorem soo16 {a0 a1 a2 a3 a4 a5 a6 a7 a8 a9 a10 a11 a12 a13 a14 a15 : Sl} {l : En} {d x : List D} : seto (a0 :: a1 :: a2 :: a3 :: a4 :: a5 :: a6 :: a7 :: a8 :: a9 :: a10 :: a11 :: a12 :: a13 :: a14 :: a15 :: .own d :: l) 16 x = some (a0 :: a1 :: a2 :: a3 :: a4 :: a5 :: a6 :: a7 :: a8 :: a9 :: a10 :: a11 :: a12 :: a13 :: a14 :: a15 :: .own x :: l) := noRfl rfl
theorem st16 {a0 a1 a2 a3 a4 a5 a6 a7 a8 a9 a10 a11 a12 a13 a14 a15 : Sl} {l : En} {s x : Sl} : (a0 :: a1 :: a2 :: a3 :: a4 :: a5 :: a6 :: a7 :: a8 :: a9 :: a10 :: a11 :: a12 :: a13 :: a14 :: a15 :: s :: l).set 16 x = a0 :: a1 :: a2 :: a3 :: a4 :: a5 :: a6 :: a7 :: a8 :: a9 :: a10 :: a11 :: a12 :: a13 :: a14 :: a15 :: x :: l := noRfl rfl
theorem gt16 {a0 a1 a2 a3 a4 a5 a6 a7 a8 a9 a10 a11 a12 a13 a14 a15 : Sl} {l : En} {s : Sl} : (a0 :: a1 :: a2 :: a3 :: a4 :: a5 :: a6 :: a7 :: a8 :: a9 :: a10 :: a11 :: a12 :: a13 :: a14 :: a15 :: s :: l)[16]? = some s := noRfl rfl
theorem mo16 {a0 a1 a2 a3 a4 a5 a6 a7 a8 a9 a10 a11 a12 a13 a14 a15 : Sl} {l : En} {d : List D} : mutL (a0 :: a1 :: a2 :: a3 :: a4 :: a5 :: a6 :: a7 :: a8 :: a9 :: a10 :: a11 :: a12 :: a13 :: a14 :: a15 :: .own d :: l) 16 = some d := noRfl rfl
theorem po16 {a0 a1 a2 a3 a4 a5 a6 a7 a8 a9 a10 a11 a12 a13 a14 a15 : Sl} {l : En} {d x : List D} : putL (a0 :: a1 :: a2 :: a3 :: a4 :: a5 :: a6 :: a7 :: a8 :: a9 :: a10 :: a11 :: a12 :: a13 :: a14 :: a15 :: .own d :: l) 16 x = some (a0 :: a1 :: a2 :: a3 :: a4 :: a5 :: a6 :: a7 :: a8 :: a9 :: a10 :: a11 :: a12 :: a13 :: a14 :: a15 :: .own x :: l) := noRfl rfl
theorem la16 {a0 a1 a2 a3 a4 a5 a6 a7 a8 a9 a10 a11 a12 a13 a14 a15 : Sl} {l : En} {d : List D} : lstAt (a0 :: a1 :: a2 :: a3 :: a4 :: a5 :: a6 :: a7 :: a8 :: a9 :: a10 :: a11 :: a12 :: a13 :: a14 :: a15 :: .own d :: l) 16 = some d := noRfl rfl
theorem lv16 {a0 a1 a2 a3 a4 a5 a6 a7 a8 a9 a10 a11 a12 a13 a14 a15 : Sl} {l : En} {d : List D} : lstAt (a0 :: a1 :: a2 :: a3 :: a4 :: a5 :: a6 :: a7 :: a8 :: a9 :: a10 :: a11 :: a12 :: a13 :: a14 :: a15 :: .val (.list d) :: l) 16 = some d := noRfl rfl
theorem nm17 {a0 a1 a2 a3 a4 a5 a6 a7 a8 a9 a10 a11 a12 a13 a14 a15 a16 : Sl} {l : En} {d : D} : eNm 17 (a0 :: a1 :: a2 :: a3 :: a4 :: a5 :: a6 :: a7 :: a8 :: a9 :: a10 :: a11 :: a12 :: a13 :: a14 :: a15 :: a16 :: .val d :: l) = some (d, a0 :: a1 :: a2 :: a3 :: a4 :: a5 :: a6 :: a7 :: a8 :: a9 :: a10 :: a11 :: a12 :: a13 :: a14 :: a15 :: a16 :: .val d :: l) := noRfl rfl
theorem no17 {a0 a1 a2 a3 a4 a5 a6 a7 a8 a9 a10 a11 a12 a13 a14 a15 a16 : Sl} {l : En} {d : List D} : eNm 17 (a0 :: a1 :: a2 :: a3 :: a4 :: a5 :: a6 :: a7 :: a8 :: a9 :: a10 :: a11 :: a12 :: a13 :: a14 :: a15 :: a16 :: .own d :: l) = some (.list d, a0 :: a1 :: a2 :: a3 :: a4 :: a5 :: a6 :: a7 :: a8 :: a9 :: a10 :: a11 :: a12 :: a13 :: a14 :: a15 :: a16 :: .val (.list d) :: l) := noRfl rfl
theorem svu17 {a0 a1 a2 a3 a4 a5 a6 a7 a8 a9 a10 a11 a12 a13 a14 a15 a16 : Sl} {l : En} {x : D} : setv (a0 :: a1 :: a2 :: a3 :: a4 :: a5 :: a6 :: a7 :: a8 :: a9 :: a10 :: a11 :: a12 :: a13 :: a14 :: a15 :: a16 :: .un :: l) 17 x = some (a0 :: a1 :: a2 :: a3 :: a4 :: a5 :: a6 :: a7 :: a8 :: a9 :: a10 :: a11 :: a12 :: a13 :: a14 :: a15 :: a16 :: .val x :: l) := noRfl rfl
theorem svv17 {a0 a1 a2 a3 a4 a5 a6 a7 a8 a9 a10 a11 a12 a13 a14 a15 a16 : Sl} {l : En} {d x : D} : setv (a0 :: a1 :: a2 :: a3 :: a4 :: a5 :: a6 :: a7 :: a8 :: a9 :: a10 :: a11 :: a12 :: a13 :: a14 :: a15 :: a16 :: .val d :: l) 17 x = some (a0 :: a1 :: a2 :: a3 :: a4 :: a5 :: a6 :: a7 :: a8 :: a9 :: a10 :: a11 :: a12 :: a13 :: a14 :: a15 :: a16 :: .val x :: l) := noRfl rfl
theorem svo17 {a0 a1 a2 a3 a4 a5 a6 a7 a8 a9 a10 a11 a12 a13 a14 a15 a16 : Sl} {l : En} {d : List D} {x : D} : setv (a0 :: a1 :: a2 :: a3 :: a4 :: a5 :: a6 :: a7 :: a8 :: a9 :: a10 :: a11 :: a12 :: a13 :: a14 :: a15 :: a16 :: .own d :: l) 17 x = some (a0 :: a1 :: a2 :: a3 :: a4 :: a5 :: a6 :: a7 :: a8 :: a9 :: a10 :: a11 :: a12 :: a13 :: a14 :: a15 :: a16 :: .val x :: l) := noRfl rfl
theorem sou17 {a0 a1 a2 a3 a4 a5 a6 a7 a8 a9 a10 a11 a12 a13 a14 a15 a16 : Sl} {l : En} {x : List D} : seto (a0 :: a1 :: a2 :: a3 :: a4 :: a5 :: a6 :: a7 :: a8 :: a9 :: a10 :: a11 :: a12 :: a13 :: a14 :: a15 :: a16 :: .un :: l) 17 x = some (a0 :: a1 :: a2 :: a3 :: a4 :: a5 :: a6 :: a7 :: a8 :: a9 :: a10 :: a11 :: a12 :: a13 :: a14 :: a15 :: a16 :: .own x :: l) := noRfl rfl
theorem sov17 {a0 a1 a2 a3 a4 a5 a6 a7 a8 a9 a10 a11 a12 a13 a14 a15 a16 : Sl} {l : En} {d : D} {x : List D} : seto (a0 :: a1 :: a2 :: a3 :: a4 :: a5 :: a6 :: a7 :: a8 :: a9 :: a10 :: a11 :: a12 :: a13 :: a14 :: a15 :: a16 :: .val d :: l) 17 x = some (a0 :: a1 :: a2 :: a3 :: a4 :: a5 :: a6 :: a7 :: a8 :: a9 :: a10 :: a11 :: a12 :: a13 :: a14 :: a15 :: a16 :: .own x :: l) := noRfl rfl
theorem soo17 {a0 a1 a2 a3 a4 a5 a6 a7 a8 a9 a10 a11 a12 a13 a14 a15 a16 : Sl} {l : En} {d x : List D} : seto (a0 :: a1 :: a2 :: a3 :: a4 :: a5 :: a6 :: a7 :: a8 :: a9 :: a10 :: a11 :: a12 :: a13 :: a14 :: a15 :: a16 :: .own d :: l) 17 x = some (a0 :: a1 :: a2 :: a3 :: a4 :: a5 :: a6 :: a7 :: a8 :: a9 :: a10 :: a11 :: a12 :: a13 :: a14 :: a15 :: a16 :: .own x :: l) := noRfl rfl
theorem st17 {a0 a1 a2 a3 a4 a5 a6 a7 a8 a9 a10 a11 a12 a13 a14 a15 a16 : Sl} {l : En} {s x : Sl} : (a0 :: a1 :: a2 :: a3 :: a4 :: a5 :: a6 :: a7 :: a8 :: a9 :: a10 :: a11 :: a12 :: a13 :: a14 :: a15 :: a16 :: s :: l).set 17 x = a0 :: a1 :: a2 :: a3 :: a4 :: a5 :: a6 :: a7 :: a8 :: a9 :: a10 :: a11 :: a12 :: a13 :: a14 :: a15 :: a16 :: x :: l := noRfl rfl
theorem gt17 {a0 a1 a2 a3 a4 a5 a6 a7 a8 a9 a10 a11 a12 a13 a14 a15 a16 : Sl} {l : En} {s : Sl} : (a0 :: a1 :: a2 :: a3 :: a4 :: a5 :: a6 :: a7 :: a8 :: a9 :: a10 :: a11 :: a12 :: a13 :: a14 :: a15 :: a16 :: s :: l)[17]? = some s := noRfl rfl
theorem mo17 {a0 a1 a2 a3 a4 a5 a6 a7 a8 a9 a10 a11 a12 a13 a14 a15 a16 : Sl} {l : En} {d : List D} : mutL (a0 :: a1 :: a2 :: a3 :: a4 :: a5 :: a6 :: a7 :: a8 :: a9 :: a10 :: a11 :: a12 :: a13 :: a14 :: a15 :: a16 :: .own d :: l) 17 = some d := noRfl rfl
theorem po17 {a0 a1 a2 a3 a4 a5 a6 a7 a8 a9 a10 a11 a12 a13 a14 a15 a16 : Sl} {l : En} {d x : List D} : putL (a0 :: a1 :: a2 :: a3 :: a4 :: a5 :: a6 :: a7 :: a8 :: a9 :: a10 :: a11 :: a12 :: a13 :: a14 :: a15 :: a16 :: .own d :: l) 17 x = some (a0 :: a1 :: a2 :: a3 :: a4 :: a5 :: a6 :: a7 :: a8 :: a9 :: a10 :: a11 :: a12 :: a13 :: a14 :: a15 :: a16 :: .own x :: l) := noRfl rfl
theorem la17 {a0 a1 a2 a3 a4 a5 a6 a7 a8 a9 a10 a11 a12 a13 a14 a15 a16 : Sl} {l : En} {d : List D} : lstAt (a0 :: a1 :: a2 :: a3 :: a4 :: a5 :: a6 :: a7 :: a8 :: a9 :: a10 :: a11 :: a12 :: a13 :: a14 :: a15 :: a16 :: .own d :: l) 17 = some d := noRfl rfl
theorem lv17 {a0 a1 a2 a3 a4 a5 a6 a7 a8 a9 a10 a11 a12 a13 a14 a15 a16 : Sl} {l : En} {d : List D} : lstAt (a0 :: a1 :: a2 :: a3 :: a4 :: a5 :: a6 :: a7 :: a8 :: a9 :: a10 :: a11 :: a12 :: a13 :: a14 :: a15 :: a16 :: .val (.list d) :: l) 17 = some d := noRfl rfl
theorem nm18 {a0 a1 a2 a3 a4 a5 a6 a7 a8 a9 a10 a11 a12 a13 a14 a15 a16 a17 : Sl} {l : En} {d : D} : eNm 18 (a0 :: a1 :: a2 :: a3 :: a4 :: a5 :: a6 :: a7 :: a8 :: a9 :: a10 :: a11 :: a12 :: a13 :: a14 :: a15 :: a16 :: a17 :: .val d :: l) = some (d, a0 :: a1 :: a2 :: a3 :: a4 :: a5 :: a6 :: a7 :: a8 :: a9 :: a10 :: a11 :: a12 :: a13 :: a14 :: a15 :: a16 :: a17 :: .val d :: l) := noRfl rfl
theorem no18 {a0 a1 a2 a3 a4 a5 a6 a7 a8 a9 a10 a11 a12 a13 a14 a15 a16 a17 : Sl} {l : En} {d : List D} : eNm 18 (a0 :: a1 :: a2 :: a3 :: a4 :: a5 :: a6 :: a7 :: a8 :: a9 :: a10 :: a11 :: a12 :: a13 :: a14 :: a15 :: a16 :: a17 :: .own d :: l) = some (.list d, a0 :: a1 :: a2 :: a3 :: a4 :: a5 :: a6 :: a7 :: a8 :: a9 :: a10 :: a11 :: a12 :: a13 :: a14 :: a15 :: a16 :: a17 :: .val (.list d) :: l) := noRfl rfl
theorem svu18 {a0 a1 a2 a3 a4 a5 a6 a7 a8 a9 a10 a11 a12 a13 a14 a15 a16 a17 : Sl} {l : En} {x : D} : setv (a0 :: a1 :: a2 :: a3 :: a4 :: a5 :: a6 :: a7 :: a8 :: a9 :: a10 :: a11 :: a12 :: a13 :: a14 :: a15 :: a16 :: a17 :: .un :: l) 18 x = some (a0 :: a1 :: a2 :: a3 :: a4 :: a5 :: a6 :: a7 :: a8 :: a9 :: a10 :: a11 :: a12 :: a13 :: a14 :: a15 :: a16 :: a17 :: .val x :: l) := noRfl rfl
theorem svv18 {a0 a1 a2 a3 a4 a5 a6 a7 a8 a9 a10 a11 a12 a13 a14 a15 a16 a17 : Sl} {l : En} {d x : D} : setv (a0 :: a1 :: a2 :: a3 :: a4 :: a5 :: a6 :: a7 :: a8 :: a9 :: a10 :: a11 :: a12 :: a13 :: a14 :: a15 :: a16 :: a17 :: .val d :: l) 18 x = some (a0 :: a1 :: a2 :: a3 :: a4 :: a5 :: a6 :: a7 :: a8 :: a9 :: a10 :: a11 :: a12 :: a13 :: a14 :: a15 :: a16 :: a17 :: .val x :: l) := noRfl rfl
theorem svo18 {a0 a1 a2 a3 a4 a5 a6 a7 a8 a9 a10 a11 a12 a13 a14 a15 a16 a17 : Sl} {l : En} {d : List D} {x : D} : setv (a0 :: a1 :: a2 :: a3 :: a4 :: a5 :: a6 :: a7 :: a8 :: a9 :: a10 :: a11 :: a12 :: a13 :: a14 :: a15 :: a16 :: a17 :: .own d :: l) 18 x = some (a0 :: a1 :: a2 :: a3 :: a4 :: a5 :: a6 :: a7 :: a8 :: a9 :: a10 :: a11 :: a12 :: a13 :: a14 :: a15 :: a16 :: a17 :: .val x :: l) := noRfl rfl
theorem sou18 {a0 a1 a2 a3 a4 a5 a6 a7 a8 a9 a10 a11 a12 a13 a14 a15 a16 a17 : Sl} {l : En} {x : List D} : seto (a0 :: a1 :: a2 :: a3 :: a4 :: a5 :: a6 :: a7 :: a8 :: a9 :: a10 :: a11 :: a12 :: a13 :: a14 :: a15 :: a16 :: a17 :: .un :: l) 18 x = some (a0 :: a1 :: a2 :: a3 :: a4 :: a5 :: a6 :: a7 :: a8 :: a9 :: a10 :: a11 :: a12 :: a13 :: a14 :: a15 :: a16 :: a17 :: .own x :: l) := noRfl rfl
theorem sov18 {a0 a1 a2 a3 a4 a5 a6 a7 a8 a9 a10 a11 a12 a13 a14 a15 a16 a17 : Sl} {l : En} {d : D} {x : List D} : seto (a0 :: a1 :: a2 :: a3 :: a4 :: a5 :: a6 :: a7 :: a8 :: a9 :: a10 :: a11 :: a12 :: a13 :: a14 :: a15 :: a16 :: a17 :: .val d :: l) 18 x = some (a0 :: a1 :: a2 :: a3 :: a4 :: a5 :: a6 :: a7 :: a8 :: a9 :: a10 :: a11 :: a12 :: a13 :: a14 :: a15 :: a16 :: a17 :: .own x :: l) := noRfl rfl
theorem soo18 {a0 a1 a2 a3 a4 a5 a6 a7 a8 a9 a10 a11 a12 a13 a14 a15 a16 a17 : Sl} {l : En} {d x : List D} : seto (a0 :: a1 :: a2 :: a3 :: a4 :: a5 :: a6 :: a7 :: a8 :: a9 :: a10 :: a11 :: a12 :: a13 :: a14 :: a15 :: a16 :: a17 :: .own d :: l) 18 x = some (a0 :: a1 :: a2 :: a3 :: a4 :: a5 :: a6 :: a7 :: a8 :: a9 :: a10 :: a11 :: a12 :: a13 :: a14 :: a15 :: a16 :: a17 :: .own x :: l) := noRfl rfl
theorem st18 {a0 a1 a2 a3 a4 a5 a6 a7 a8 a9 a10 a11 a12 a13 a14 a15 a16 a17 : Sl} {l : En} {s x : Sl} : (a0 :: a1 :: a2 :: a3 :: a4 :: a5 :: a6 :: a7 :: a8 :: a9 :: a10 :: a11 :: a12 :: a13 :: a14 :: a15 :: a16 :: a17 :: s :: l).set 18 x = a0 :: a1 :: a2 :: a3 :: a4 :: a5 :: a6 :: a7 :: a8 :: a9 :: a10 :: a11 :: a12 :: a13 :: a14 :: a15 :: a16 :: a17 :: x :: l := noRfl rfl
theorem gt18 {a0 a1 a2 a3 a4 a5 a6 a7 a8 a9 a10 a11 a12 a13 a14 a15 a16 a17 : Sl} {l : En} {s : Sl} : (a0 :: a1 :: a2 :: a3 :: a4 :: a5 :: a6 :: a7 :: a8 :: a9 :: a10 :: a11 :: a12 :: a13 :: a14 :: a15 :: a16 :: a17 :: s :: l)[18]? = some s := noRfl rfl
theorem mo18 {a0 a1 a2 a3 a4 a5 a6 a7 a8 a9 a10 a11 a12 a13 a14 a15 a16 a17 : Sl} {l : En} {d : List D} : mutL (a0 :: a1 :: a2 :: a3 :: a4 :: a5 :: a6 :: a7 :: a8 :: a9 :: a10 :: a11 :: a12 :: a13 :: a14 :: a15 :: a16 :: a17 :: .own d :: l) 18 = some d := noRfl rfl
theorem po18 {a0 a1 a2 a3 a4 a5 a6 a7 a8 a9 a10 a11 a12 a13 a14 a15 a16 a17 : Sl} {l : En} {d x : List D} : putL (a0 :: a1 :: a2 :: a3 :: a4 :: a5 :: a6 :: a7 :: a8 :: a9 :: a10 :: a11 :: a12 :: a13 :: a14 :: a15 :: a16 :: a17 :: .own d :: l) 18 x = some (a0 :: a1 :: a2 :: a3 :: a4 :: a5 :: a6 :: a7 :: a8 :: a9 :: a10 :: a11 :: a12 :: a13 :: a14 :: a15 :: a16 :: a17 :: .own x :: l) := noRfl rfl
theorem la18 {a0 a1 a2 a3 a4 a5 a6 a7 a8 a9 a10 a11 a12 a13 a14 a15 a16 a17 : Sl} {l : En} {d : List D} : lstAt (a0 :: a1 :: a2 :: a3 :: a4 :: a5 :: a6 :: a7 :: a8 :: a9 :: a10 :: a11 :: a12 :: a13 :: a14 :: a15 :: a16 :: a17 :: .own d :: l) 18 = some d := noRfl rfl
theorem lv18 {a0 a1 a2 a3 a4 a5 a6 a7 a8 a9 a10 a11 a12 a13 a14 a15 a16 a17 : Sl} {l : En} {d : List D} : lstAt (a0 :: a1 :: a2 :: a3 :: a4 :: a5 :: a6 :: a7 :: a8 :: a9 :: a10 :: a11 :: a12 :: a13 :: a14 :: a15 :: a16 :: a17 :: .val (.list d) :: l) 18 = some d := noRfl rfl
theorem nm19 {a0 a1 a2 a3 a4 a5 a6 a7 a8 a9 a10 a11 a12 a13 a14 a15 a16 a17 a18 : Sl} {l : En} {d : D} : eNm 19 (a0 :: a1 :: a2 :: a3 :: a4 :: a5 :: a6 :: a7 :: a8 :: a9 :: a10 :: a11 :: a12 :: a13 :: a14 :: a15 :: a16 :: a17 :: a18 :: .val d :: l) = some (d, a0 :: a1 :: a2 :: a3 :: a4 :: a5 :: a6 :: a7 :: a8 :: a9 :: a10 :: a11 :: a12 :: a13 :: a14 :: a15 :: a16 :: a17 :: a18 :: .val d :: l) := noRfl rfl
theorem no19 {a0 a1 a2 a3 a4 a5 a6 a7 a8 a9 a10 a11 a12 a13 a14 a15 a16 a17 a18 : Sl} {l : En} {d : List D} : eNm 19 (a0 :: a1 :: a2 :: a3 :: a4 :: a5 :: a6 :: a7 :: a8 :: a9 :: a10 :: a11 :: a12 :: a13 :: a14 :: a15 :: a16 :: a17 :: a18 :: .own d :: l) = some (.list d, a0 :: a1 :: a2 :: a3 :: a4 :: a5 :: a6 :: a7 :: a8 :: a9 :: a10 :: a11 :: a12 :: a13 :: a14 :: a15 :: a16 :: a17 :: a18 :: .val (.list d) :: l) := noRfl rfl
theorem svu19 {a0 a1 a2 a3 a4 a5 a6 a7 a8 a9 a10 a11 a12 a13 a14 a15 a16 a17 a18 : Sl} {l : En} {x : D} : setv (a0 :: a1 :: a2 :: a3 :: a4 :: a5 :: a6 :: a7 :: a8 :: a9 :: a10 :: a11 :: a12 :: a13 :: a14 :: a15 :: a16 :: a17 :: a18 :: .un :: l) 19 x = some (a0 :: a1 :: a2 :: a3 :: a4 :: a5 :: a6 :: a7 :: a8 :: a9 :: a10 :: a11 :: a12 :: a13 :: a14 :: a15 :: a16 :: a17 :: a18 :: .val x :: l) := noRfl rfl
theorem svv19 {a0 a1 a2 a3 a4 a5 a6 a7 a8 a9 a10 a11 a12 a13 a14 a15 a16 a17 a18 : Sl} {l : En} {d x : D} : setv (a0 :: a1 :: a2 :: a3 :: a4 :: a5 :: a6 :: a7 :: a8 :: a9 :: a10 :: a11 :: a12 :: a13 :: a14 :: a15 :: a16 :: a17 :: a18 :: .val d :: l) 19 x = some (a0 :: a1 :: a2 :: a3 :: a4 :: a5 :: a6 :: a7 :: a8 :: a9 :: a10 :: a11 :: a12 :: a13 :: a14 :: a15 :: a16 :: a17 :: a18 :: .val x :: l) := noRfl rfl
theorem svo19 {a0 a1 a2 a3 a4 a5 a6 a7 a8 a9 a10 a11 a12 a13 a14 a15 a16 a17 a18 : Sl} {l : En} {d : List D} {x : D} : setv (a0 :: a1 :: a2 :: a3 :: a4 :: a5 :: a6 :: a7 :: a8 :: a9 :: a10 :: a11 :: a12 :: a13 :: a14 :: a15 :: a16 :: a17 :: a18 :: .own d :: l) 19 x = some (a0 :: a1 :: a2 :: a3 :: a4 :: a5 :: a6 :: a7 :: a8 :: a9 :: a10 :: a11 :: a12 :: a13 :: a14 :: a15 :: a16 :: a17 :: a18 :: .val x :: l) := noRfl rfl
theorem sou19 {a0 a1 a2 a3 a4 a5 a6 a7 a8 a9 a10 a11 a12 a13 a14 a15 a16 a17 a18 : Sl} {l : En} {x : List D} : seto (a0 :: a1 :: a2 :: a3 :: a4 :: a5 :: a6 :: a7 :: a8 :: a9 :: a10 :: a11 :: a12 :: a13 :: a14 :: a15 :: a16 :: a17 :: a18 :: .un :: l) 19 x = some (a0 :: a1 :: a2 :: a3 :: a4 :: a5 :: a6 :: a7 :: a8 :: a9 :: a10 :: a11 :: a12 :: a13 :: a14 :: a15 :: a16 :: a17 :: a18 :: .own x :: l) := noRfl rfl
theorem sov19 {a0 a1 a2 a3 a4 a5 a6 a7 a8 a9 a10 a11 a12 a13 a14 a15 a16 a17 a18 : Sl} {l : En} {d : D} {x : List D} : seto (a0 :: a1 :: a2 :: a3 :: a4 :: a5 :: a6 :: a7 :: a8 :: a9 :: a10 :: a11 :: a12 :: a13 :: a14 :: a15 :: a16 :: a17 :: a18 :: .val d :: l) 19 x = some (a0 :: a1 :: a2 :: a3 :: a4 :: a5 :: a6 :: a7 :: a8 :: a9 :: a10 :: a11 :: a12 :: a13 :: a14 :: a15 :: a16 :: a17 :: a18 :: .own x :: l) := noRfl rfl
theorem soo19 {a0 a1 a2 a3 a4 a5 a6 a7 a8 a9 a10 a11 a12 a13 a14 a15 a16 a17 a18 : Sl} {l : En} {d x : List D} : seto (a0 :: a1 :: a2 :: a3 :: a4 :: a5 :: a6 :: a7 :: a8 :: a9 :: a10 :: a11 :: a12 :: a13 :: a14 :: a15 :: a16 :: a17 :: a18 :: .own d :: l) 19 x = some (a0 :: a1 :: a2 :: a3 :: a4 :: a5 :: a6 :: a7 :: a8 :: a9 :: a10 :: a11 :: a12 :: a13 :: a14 :: a15 :: a16 :: a17 :: a18 :: .own x :: l) := noRfl rfl
theorem st19 {a0 a1 a2 a3 a4 a5 a6 a7 a8 a9 a10 a11 a12 a13 a14 a15 a16 a17 a18 : Sl} {l : En} {s x : Sl} : (a0 :: a1 :: a2 :: a3 :: a4 :: a5 :: a6 :: a7 :: a8 :: a9 :: a10 :: a11 :: a12 :: a13 :: a14 :: a15 :: a16 :: a17 :: a18 :: s :: l).set 19 x = a0 :: a1 :: a2 :: a3 :: a4 :: a5 :: a6 :: a7 :: a8 :: a9 :: a10 :: a11 :: a12 :: a13 :: a14 :: a15 :: a16 :: a17 :: a18 :: x :: l := noRfl rfl
theorem gt19 {a0 a1 a2 a3 a4 a5 a6 a7 a8 a9 a10 a11 a12 a13 a14 a15 a16 a17 a18 : Sl} {l : En} {s : Sl} : (a0 :: a1 :: a2 :: a3 :: a4 :: a5 :: a6 :: a7 :: a8 :: a9 :: a10 :: a11 :: a12 :: a13 :: a14 :: a15 :: a16 :: a17 :: a18 :: s :: l)[19]? = some s := noRfl rfl
theorem mo19 {a0 a1 a2 a3 a4 a5 a6 a7 a8 a9 a10 a11 a12 a13 a14 a15 a16 a17 a18 : Sl} {l : En} {d : List D} : mutL (a0 :: a1 :: a2 :: a3 :: a4 :: a5 :: a6 :: a7 :: a8 :: a9 :: a10 :: a11 :: a12 :: a13 :: a14 :: a15 :: a16 :: a17 :: a18 :: .own d :: l) 19 = some d := noRfl rfl
theorem po19 {a0 a1 a2 a3 a4 a5 a6 a7 a8 a9 a10 a11 a12 a13 a14 a15 a16 a17 a18 : Sl} {l : En} {d x : List D} : putL (a0 :: a1 :: a2 :: a3 :: a4 :: a5 :: a6 :: a7 :: a8 :: a9 :: a10 :: a11 :: a12 :: a13 :: a14 :: a15 :: a16 :: a17 :: a18 :: .own d :: l) 19 x = some (a0 :: a1 :: a2 :: a3 :: a4 :: a5 :: a6 :: a7 :: a8 :: a9 :: a10 :: a11 :: a12 :: a13 :: a14 :: a15 :: a16 :: a17 :: a18 :: .own x :: l) := noRfl rfl
theorem la19 {a0 a1 a2 a3 a4 a5 a6 a7 a8 a9 a10 a11 a12 a13 a14 a15 a16 a17 a18 : Sl} {l : En} {d : List D} : lstAt (a0 :: a1 :: a2 :: a3 :: a4 :: a5 :: a6 :: a7 :: a8 :: a9 :: a10 :: a11 :: a12 :: a13 :: a14 :: a15 :: a16 :: a17 :: a18 :: .own d :: l) 19 = some d := noRfl rfl
theorem lv19 {a0 a1 a2 a3 a4 a5 a6 a7 a8 a9 a10 a11 a12 a13 a14 a15 a16 a17 a18 : Sl} {l : En} {d : List D} : lstAt (a0 :: a1 :: a2 :: a3 :: a4 :: a5 :: a6 :: a7 :: a8 :: a9 :: a10 :: a11 :: a12 :: a13 :: a14 :: a15 :: a16 :: a17 :: a18 :: .val (.list d) :: l) 19 = some d := noRfl rfl
theorem nm20 {a0 a1 a2 a3 a4 a5 a6 a7 a8 a9 a10 a11 a12 a13 a14 a15 a16 a17 a18 a19 : Sl} {l : En} {d : D} : eNm 20 (a0 :: a1 :: a2 :: a3 :: a4 :: a5 :: a6 :: a7 :: a8 :: a9 :: a10 :: a11 :: a12 :: a13 :: a14 :: a15 :: a16 :: a17 :: a18 :: a19 :: .val d :: l) = some (d, a0 :: a1 :: a2 :: a3 :: a4 :: a5 :: a6 :: a7 :: a8 :: a9 :: a10 :: a11 :: a12 :: a13 :: a14 :: a15 :: a16 :: a17 :: a18 :: a19 :: .val d :: l) := noRfl rfl
theorem no20 {a0 a1 a2 a3 a4 a5 a6 a7 a8 a9 a10 a11 a12 a13 a14 a15 a16 a17 a18 a19 : Sl} {l : En} {d : List D} : eNm 20 (a0 :: a1 :: a2 :: a3 :: a4 :: a5 :: a6 :: a7 :: a8 :: a9 :: a10 :: a11 :: a12 :: a13 :: a14 :: a15 :: a16 :: a17 :: a18 :: a19 :: .own d :: l) = some (.list d, a0 :: a1 :: a2 :: a3 :: a4 :: a5 :: a6 :: a7 :: a8 :: a9 :: a10 :: a11 :: a12 :: a13 :: a14 :: a15 :: a16 :: a17 :: a18 :: a19 :: .val (.list d) :: l) := noRfl rfl
theorem svu20 {a0 a1 a2 a3 a4 a5 a6 a7 a8 a9 a10 a11 a12 a13 a14 a15 a16 a17 a18 a19 : Sl} {l : En} {x : D} : setv (a0 :: a1 :: a2 :: a3 :: a4 :: a5 :: a6 :: a7 :: a8 :: a9 :: a10 :: a11 :: a12 :: a13 :: a14 :: a15 :: a16 :: a17 :: a18 :: a19 :: .un :: l) 20 x = some (a0 :: a1 :: a2 :: a3 :: a4 :: a5 :: a6 :: a7 :: a8 :: a9 :: a10 :: a11 :: a12 :: a13 :: a14 :: a15 :: a16 :: a17 :: a18 :: a19 :: .val x :: l) := noRfl rfl
theorem svv20 {a0 a1 a2 a3 a4 a5 a6 a7 a8 a9 a10 a11 a12 a13 a14 a15 a16 a17 a18 a19 : Sl} {l : En} {d x : D} : setv (a0 :: a1 :: a2 :: a3 :: a4 :: a5 :: a6 :: a7 :: a8 :: a9 :: a10 :: a11 :: a12 :: a13 :: a14 :: a15 :: a16 :: a17 :: a18 :: a19 :: .val d :: l) 20 x = some (a0 :: a1 :: a2 :: a3 :: a4 :: a5 :: a6 :: a7 :: a8 :: a9 :: a10 :: a11 :: a12 :: a13 :: a14 :: a15 :: a16 :: a17 :: a18 :: a19 :: .val x :: l) := noRfl rfl
theorem svo20 {a0 a1 a2 a3 a4 a5 a6 a7 a8 a9 a10 a11 a12 a13 a14 a15 a16 a17 a18 a19 : Sl} {l : En} {d : List D} {x : D} : setv (a0 :: a1 :: a2 :: a3 :: a4 :: a5 :: a6 :: a7 :: a8 :: a9 :: a10 :: a11 :: a12 :: a13 :: a14 :: a15 :: a16 :: a17 :: a18 :: a19 :: .own d :: l) 20 x = some (a0 :: a1 :: a2 :: a3 :: a4 :: a5 :: a6 :: a7 :: a8 :: a9 :: a10 :: a11 :: a12 :: a13 :: a14 :: a15 :: a16 :: a17 :: a18 :: a19 :: .val x :: l) := noRfl rfl
theorem sou20 {a0 a1 a2 a3 a4 a5 a6 a7 a8 a9 a10 a11 a12 a13 a14 a15 a16 a17 a18 a19 : Sl} {l : En} {x : List D} : seto (a0 :: a1 :: a2 :: a3 :: a4 :: a5 :: a6 :: a7 :: a8 :: a9 :: a10 :: a11 :: a12 :: a13 :: a14 :: a15 :: a16 :: a17 :: a18 :: a19 :: .un :: l) 20 x = some (a0 :: a1 :: a2 :: a3 :: a4 :: a5 :: a6 :: a7 :: a8 :: a9 :: a10 :: a11 :: a12 :: a13 :: a14 :: a15 :: a16 :: a17 :: a18 :: a19 :: .own x :: l) := noRfl rfl
theorem sov20 {a0 a1 a2 a3 a4 a5 a6 a7 a8 a9 a10 a11 a12 a13 a14 a15 a16 a17 a18 a19 : Sl} {l : En} {d : D} {x : List D} : seto (a0 :: a1 :: a2 :: a3 :: a4 :: a5 :: a6 :: a7 :: a8 :: a9 :: a10 :: a11 :: a12 :: a13 :: a14 :: a15 :: a16 :: a17 :: a18 :: a19 :: .val d :: l) 20 x = some (a0 :: a1 :: a2 :: a3 :: a4 :: a5 :: a6 :: a7 :: a8 :: a9 :: a10 :: a11 :: a12 :: a13 :: a14 :: a15 :: a16 :: a17 :: a18 :: a19 :: .own x :: l) := noRfl rfl
theorem soo20 {a0 a1 a2 a3 a4 a5 a6 a7 a8 a9 a10 a11 a12 a13 a14 a15 a16 a17 a18 a19 : Sl} {l : En} {d x : List D} : seto (a0 :: a1 :: a2 :: a3 :: a4 :: a5 :: a6 :: a7 :: a8 :: a9 :: a10 :: a11 :: a12 :: a13 :: a14 :: a15 :: a16 :: a17 :: a18 :: a19 :: .own d :: l) 20 x = some (a0 :: a1 :: a2 :: a3 :: a4 :: a5 :: a6 :: a7 :: a8 :: a9 :: a10 :: a11 :: a12 :: a13 :: a14 :: a15 :: a16 :: a17 :: a18 :: a19 :: .own x :: l) := noRfl rfl
theorem st20 {a0 a1 a2 a3 a4 a5 a6 a7 a8 a9 a10 a11 a12 a13 a14 a15 a16 a17 a18 a19 : Sl} {l : En} {s x : Sl} : (a0 :: a1 :: a2 :: a3 :: a4 :: a5 :: a6 :: a7 :: a8 :: a9 :: a10 :: a11 :: a12 :: a13 :: a14 :: a15 :: a16 :: a17 :: a18 :: a19 :: s :: l).set 20 x = a0 :: a1 :: a2 :: a3 :: a4 :: a5 :: a6 :: a7 :: a8 :: a9 :: a10 :: a11 :: a12 :: a13 :: a14 :: a15 :: a16 :: a17 :: a18 :: a19 :: x :: l := noRfl rfl
theorem gt20 {a0 a1 a2 a3 a4 a5 a6 a7 a8 a9 a10 a11 a12 a13 a14 a15 a16 a17 a18 a19 : Sl} {l : En} {s : Sl} : (a0 :: a1 :: a2 :: a3 :: a4 :: a5 :: a6 :: a7 :: a8 :: a9 :: a10 :: a11 :: a12 :: a13 :: a14 :: a15 :: a16 :: a17 :: a18 :: a19 :: s :: l)[20]? = some s := noRfl rfl
theorem mo20 {a0 a1 a2 a3 a4 a5 a6 a7 a8 a9 a10 a11 a12 a13 a14 a15 a16 a17 a18 a19 : Sl} {l : En} {d : List D} : mutL (a0 :: a1 :: a2 :: a3 :: a4 :: a5 :: a6 :: a7 :: a8 :: a9 :: a10 :: a11 :: a12 :: a13 :: a14 :: a15 :: a16 :: a17 :: a18 :: a19 :: .own d :: l) 20 = some d := noRfl rfl
theorem po20 {a0 a1 a2 a3 a4 a5 a6 a7 a8 a9 a10 a11 a12 a13 a14 a15 a16 a17 a18 a19 : Sl} {l : En} {d x : List D} : putL (a0 :: a1 :: a2 :: a3 :: a4 :: a5 :: a6 :: a7 :: a8 :: a9 :: a10 :: a11 :: a12 :: a13 :: a14 :: a15 :: a16 :: a17 :: a18 :: a19 :: .own d :: l) 20 x = some (a0 :: a1 :: a2 :: a3 :: a4 :: a5 :: a6 :: a7 :: a8 :: a9 :: a10 :: a11 :: a12 :: a13 :: a14 :: a15 :: a16 :: a17 :: a18 :: a19 :: .own x :: l) := noRfl rfl
theorem la20 {a0 a1 a2 a3 a4 a5 a6 a7 a8 a9 a10 a11 a12 a13 a14 a15 a16 a17 a18 a19 : Sl} {l : En} {d : List D} : lstAt (a0 :: a1 :: a2 :: a3 :: a4 :: a5 :: a6 :: a7 :: a8 :: a9 :: a10 :: a11 :: a12 :: a13 :: a14 :: a15 :: a16 :: a17 :: a18 :: a19 :: .own d :: l) 20 = some d := noRfl rfl
theorem lv20 {a0 a1 a2 a3 a4 a5 a6 a7 a8 a9 a10 a11 a12 a13 a14 a15 a16 a17 a18 a19 : Sl} {l : En} {d : List D} : lstAt (a0 :: a1 :: a2 :: a3 :: a4 :: a5 :: a6 :: a7 :: a8 :: a9 :: a10 :: a11 :: a12 :: a13 :: a14 :: a15 :: a16 :: a17 :: a18 :: a19 :: .val (.list d) :: l) 20 = some d := noRfl rfl
theorem nm21 {a0 a1 a2 a3 a4 a5 a6 a7 a8 a9 a10 a11 a12 a13 a14 a15 a16 a17 a18 a19 a20 : Sl} {l : En} {d : D} : eNm 21 (a0 :: a1 :: a2 :: a3 :: a4 :: a5 :: a6 :: a7 :: a8 :: a9 :: a10 :: a11 :: a12 :: a13 :: a14 :: a15 :: a16 :: a17 :: a18 :: a19 :: a20 :: .val d :: l) = some (d, a0 :: a1 :: a2 :: a3 :: a4 :: a5 :: a6 :: a7 :: a8 :: a9 :: a10 :: a11 :: a12 :: a13 :: a14 :: a15 :: a16 :: a17 :: a18 :: a19 :: a20 :: .val d :: l) := noRfl rfl
theorem no21 {a0 a1 a2 a3 a4 a5 a6 a7 a8 a9 a10 a11 a12 a13 a14 a15 a16 a17 a18 a19 a20 : Sl} {l : En} {d : List D} : eNm 21 (a0 :: a1 :: a2 :: a3 :: a4 :: a5 :: a6 :: a7 :: a8 :: a9 :: a10 :: a11 :: a12 :: a13 :: a14 :: a15 :: a16 :: a17 :: a18 :: a19 :: a20 :: .own d :: l) = some (.list d, a0 :: a1 :: a2 :: a3 :: a4 :: a5 :: a6 :: a7 :: a8 :: a9 :: a10 :: a11 :: a12 :: a13 :: a14 :: a15 :: a16 :: a17 :: a18 :: a19 :: a20 :: .val (.list d) :: l) := noRfl rfl
theorem svu21 {a0 a1 a2 a3 a4 a5 a6 a7 a8 a9 a10 a11 a12 a13 a14 a15 a16 a17 a18 a19 a20 : Sl} {l : En} {x : D} : setv (a0 :: a1 :: a2 :: a3 :: a4 :: a5 :: a6 :: a7 :: a8 :: a9 :: a10 :: a11 :: a12 :: a13 :: a14 :: a15 :: a16 :: a17 :: a18 :: a19 :: a20 :: .un :: l) 21 x = some (a0 :: a1 :: a2 :: a3 :: a4 :: a5 :: a6 :: a7 :: a8 :: a9 :: a10 :: a11 :: a12 :: a13 :: a14 :: a15 :: a16 :: a17 :: a18 :: a19 :: a20 :: .val x :: l) := noRfl rfl
theorem svv21 {a0 a1 a2 a3 a4 a5 a6 a7 a8 a9 a10 a11 a12 a13 a14 a15 a16 a17 a18 a19 a20 : Sl} {l : En} {d x : D} : setv (a0 :: a1 :: a2 :: a3 :: a4 :: a5 :: a6 :: a7 :: a8 :: a9 :: a10 :: a11 :: a12 :: a13 :: a14 :: a15 :: a16 :: a17 :: a18 :: a19 :: a20 :: .val d :: l) 21 x = some (a0 :: a1 :: a2 :: a3 :: a4 :: a5 :: a6 :: a7 :: a8 :: a9 :: a10 :: a11 :: a12 :: a13 :: a14 :: a15 :: a16 :: a17 :: a18 :: a19 :: a20 :: .val x :: l) := noRfl rfl
theorem svo21 {a0 a1 a2 a3 a4 a5 a6 a7 a8 a9 a10 a11 a12 a13 a14 a15 a16 a17 a18 a19 a20 : Sl} {l : En} {d : List D} {x : D} : setv (a0 :: a1 :: a2 :: a3 :: a4 :: a5 :: a6 :: a7 :: a8 :: a9 :: a10 :: a11 :: a12 :: a13 :: a14 :: a15 :: a16 :: a17 :: a18 :: a19 :: a20 :: .own d :: l) 21 x = some (a0 :: a1 :: a2 :: a3 :: a4 :: a5 :: a6 :: a7 :: a8 :: a9 :: a10 :: a11 :: a12 :: a13 :: a14 :: a15 :: a16 :: a17 :: a18 :: a19 :: a20 :: .val x :: l) := noRfl rfl
theorem sou21 {a0 a1 a2 a3 a4 a5 a6 a7 a8 a9 a10 a11 a12 a13 a14 a15 a16 a17 a18 a19 a20 : Sl} {l : En} {x : List D} : seto (a0 :: a1 :: a2 :: a3 :: a4 :: a5 :: a6 :: a7 :: a8 :: a9 :: a10 :: a11 :: a12 :: a13 :: a14 :: a15 :: a16 :: a17 :: a18 :: a19 :: a20 :: .un :: l) 21 x = some (a0 :: a1 :: a2 :: a3 :: a4 :: a5 :: a6 :: a7 :: a8 :: a9 :: a10 :: a11 :: a12 :: a13 :: a14 :: a15 :: a16 :: a17 :: a18 :: a19 :: a20 :: .own x :: l) := noRfl rfl
theorem sov21 {a0 a1 a2 a3 a4 a5 a6 a7 a8 a9 a10 a11 a12 a13 a14 a15 a16 a17 a18 a19 a20 : Sl} {l : En} {d : D} {x : List D} : seto (a0 :: a1 :: a2 :: a3 :: a4 :: a5 :: a6 :: a7 :: a8 :: a9 :: a10 :: a11 :: a12 :: a13 :: a14 :: a15 :: a16 :: a17 :: a18 :: a19 :: a20 :: .val d :: l) 21 x = some (a0 :: a1 :: a2 :: a3 :: a4 :: a5 :: a6 :: a7 :: a8 :: a9 :: a10 :: a11 :: a12 :: a13 :: a14 :: a15 :: a16 :: a17 :: a18 :: a19 :: a20 :: .own x :: l) := noRfl rfl
theorem soo21 {a0 a1 a2 a3 a4 a5 a6 a7 a8 a9 a10 a11 a12 a13 a14 a15 a16 a17 a18 a19 a20 : Sl} {l : En} {d x : List D} : seto (a0 :: a1 :: a2 :: a3 :: a4 :: a5 :: a6 :: a7 :: a8 :: a9 :: a10 :: a11 :: a12 :: a13 :: a14 :: a15 :: a16 :: a17 :: a18 :: a19 :: a20 :: .own d :: l) 21 x = some (a0 :: a1 :: a2 :: a3 :: a4 :: a5 :: a6 :: a7 :: a8 :: a9 :: a10 :: a11 :: a12 :: a13 :: a14 :: a15 :: a16 :: a17 :: a18 :: a19 :: a20 :: .own x :: l) := noRfl rfl
theorem st21 {a0 a1 a2 a3 a4 a5 a6 a7 a8 a9 a10 a11 a12 a13 a14 a15 a16 a17 a18 a19 a20 : Sl} {l : En} {s x : Sl} : (a0 :: a1 :: a2 :: a3 :: a4 :: a5 :: a6 :: a7 :: a8 :: a9 :: a10 :: a11 :: a12 :: a13 :: a14 :: a15 :: a16 :: a17 :: a18 :: a19 :: a20 :: s :: l).set 21 x = a0 :: a1 :: a2 :: a3 :: a4 :: a5 :: a6 :: a7 :: a8 :: a9 :: a10 :: a11 :: a12 :: a13 :: a14 :: a15 :: a16 :: a17 :: a18 :: a19 :: a20 :: x :: l := noRfl rfl
theorem gt21 {a0 a1 a2 a3 a4 a5 a6 a7 a8 a9 a10 a11 a12 a13 a14 a15 a16 a17 a18 a19 a20 : Sl} {l : En} {s : Sl} : (a0 :: a1 :: a2 :: a3 :: a4 :: a5 :: a6 :: a7 :: a8 :: a9 :: a10 :: a11 :: a12 :: a13 :: a14 :: a15 :: a16 :: a17 :: a18 :: a19 :: a20 :: s :: l)[21]? = some s := noRfl rfl
theorem mo21 {a0 a1 a2 a3 a4 a5 a6 a7 a8 a9 a10 a11 a12 a13 a14 a15 a16 a17 a18 a19 a20 : Sl} {l : En} {d : List D} : mutL (a0 :: a1 :: a2 :: a3 :: a4 :: a5 :: a6 :: a7 :: a8 :: a9 :: a10 :: a11 :: a12 :: a13 :: a14 :: a15 :: a16 :: a17 :: a18 :: a19 :: a20 :: .own d :: l) 21 = some d := noRfl rfl
theorem po21 {a0 a1 a2 a3 a4 a5 a6 a7 a8 a9 a10 a11 a12 a13 a14 a15 a16 a17 a18 a19 a20 : Sl} {l : En} {d x : List D} : putL (a0 :: a1 :: a2 :: a3 :: a4 :: a5 :: a6 :: a7 :: a8 :: a9 :: a10 :: a11 :: a12 :: a13 :: a14 :: a15 :: a16 :: a17 :: a18 :: a19 :: a20 :: .own d :: l) 21 x = some (a0 :: a1 :: a2 :: a3 :: a4 :: a5 :: a6 :: a7 :: a8 :: a9 :: a10 :: a11 :: a12 :: a13 :: a14 :: a15 :: a16 :: a17 :: a18 :: a19 :: a20 :: .own x :: l) := noRfl rfl
theorem la21 {a0 a1 a2 a3 a4 a5 a6 a7 a8 a9 a10 a11 a12 a13 a14 a15 a16 a17 a18 a19 a20 : Sl} {l : En} {d : List D} : lstAt (a0 :: a1 :: a2 :: a3 :: a4 :: a5 :: a6 :: a7 :: a8 :: a9 :: a10 :: a11 :: a12 :: a13 :: a14 :: a15 :: a16 :: a17 :: a18 :: a19 :: a20 :: .own d :: l) 21 = some d := noRfl rfl
theorem lv21 {a0 a1 a2 a3 a4 a5 a6 a7 a8 a9 a10 a11 a12 a13 a14 a15 a16 a17 a18 a19 a20 : Sl} {l : En} {d : List D} : lstAt (a0 :: a1 :: a2 :: a3 :: a4 :: a5 :: a6 :: a7 :: a8 :: a9 :: a10 :: a11 :: a12 :: a13 :: a14 :: a15 :: a16 :: a17 :: a18 :: a19 :: a20 :: .val (.list d) :: l) 21 = some d := noRfl rfl
theorem nm22 {a0 a1 a2 a3 a4 a5 a6 a7 a8 a9 a10 a11 a12 a13 a14 a15 a16 a17 a18 a19 a20 a21 : Sl} {l : En} {d : D} : eNm 22 (a0 :: a1 :: a2 :: a3 :: a4 :: a5 :: a6 :: a7 :: a8 :: a9 :: a10 :: a11 :: a12 :: a13 :: a14 :: a15 :: a16 :: a17 :: a18 :: a19 :: a20 :: a21 :: .val d :: l) = some (d, a0 :: a1 :: a2 :: a3 :: a4 :: a5 :: a6 :: a7 :: a8 :: a9 :: a10 :: a11 :: a12 :: a13 :: a14 :: a15 :: a16 :: a17 :: a18 :: a19 :: a20 :: a21 :: .val d :: l) := noRfl rfl
theorem no22 {a0 a1 a2 a3 a4 a5 a6 a7 a8 a9 a10 a11 a12 a13 a14 a15 a16 a17 a18 a19 a20 a21 : Sl} {l : En} {d : List D} : eNm 22 (a0 :: a1 :: a2 :: a3 :: a4 :: a5 :: a6 :: a7 :: a8 :: a9 :: a10 :: a11 :: a12 :: a13 :: a14 :: a15 :: a16 :: a17 :: a18 :: a19 :: a20 :: a21 :: .own d :: l) = some (.list d, a0 :: a1 :: a2 :: a3 :: a4 :: a5 :: a6 :: a7 :: a8 :: a9 :: a10 :: a11 :: a12 :: a13 :: a14 :: a15 :: a16 :: a17 :: a18 :: a19 :: a20 :: a21 :: .val (.list d) :: l) := noRfl rfl
theorem svu22 {a0 a1 a2 a3 a4 a5 a6 a7 a8 a9 a10 a11 a12 a13 a14 a15 a16 a17 a18 a19 a20 a21 : Sl} {l : En} {x : D} : setv (a0 :: a1 :: a2 :: a3 :: a4 :: a5 :: a6 :: a7 :: a8 :: a9 :: a10 :: a11 :: a12 :: a13 :: a14 :: a15 :: a16 :: a17 :: a18 :: a19 :: a20 :: a21 :: .un :: l) 22 x = some (a0 :: a1 :: a2 :: a3 :: a4 :: a5 :: a6 :: a7 :: a8 :: a9 :: a10 :: a11 :: a12 :: a13 :: a14 :: a15 :: a16 :: a17 :: a18 :: a19 :: a20 :: a21 :: .val x :: l) := noRfl rfl
theorem svv22 {a0 a1 a2 a3 a4 a5 a6 a7 a8 a9 a10 a11 a12 a13 a14 a15 a16 a17 a18 a19 a20 a21 : Sl} {l : En} {d x : D} : setv (a0 :: a1 :: a2 :: a3 :: a4 :: a5 :: a6 :: a7 :: a8 :: a9 :: a10 :: a11 :: a12 :: a13 :: a14 :: a15 :: a16 :: a17 :: a18 :: a19 :: a20 :: a21 :: .val d :: l) 22 x = some (a0 :: a1 :: a2 :: a3 :: a4 :: a5 :: a6 :: a7 :: a8 :: a9 :: a10 :: a11 :: a12 :: a13 :: a14 :: a15 :: a16 :: a17 :: a18 :: a19 :: a20 :: a21 :: .val x :: l) := noRfl rfl
theorem svo22 {a0 a1 a2 a3 a4 a5 a6 a7 a8 a9 a10 a11 a12 a13 a14 a15 a16 a17 a18 a19 a20 a21 : Sl} {l : En} {d : List D} {x : D} : setv (a0 :: a1 :: a2 :: a3 :: a4 :: a5 :: a6 :: a7 :: a8 :: a9 :: a10 :: a11 :: a12 :: a13 :: a14 :: a15 :: a16 :: a17 :: a18 :: a19 :: a20 :: a21 :: .own d :: l) 22 x = some (a0 :: a1 :: a2 :: a3 :: a4 :: a5 :: a6 :: a7 :: a8 :: a9 :: a10 :: a11 :: a12 :: a13 :: a14 :: a15 :: a16 :: a17 :: a18 :: a19 :: a20 :: a21 :: .val x :: l) := noRfl rfl
theorem sou22 {a0 a1 a2 a3 a4 a5 a6 a7 a8 a9 a10 a11 a12 a13 a14 a15 a16 a17 a18 a19 a20 a21 : Sl} {l : En} {x : List D} : seto (a0 :: a1 :: a2 :: a3 :: a4 :: a5 :: a6 :: a7 :: a8 :: a9 :: a10 :: a11 :: a12 :: a13 :: a14 :: a15 :: a16 :: a17 :: a18 :: a19 :: a20 :: a21 :: .un :: l) 22 x = some (a0 :: a1 :: a2 :: a3 :: a4 :: a5 :: a6 :: a7 :: a8 :: a9 :: a10 :: a11 :: a12 :: a13 :: a14 :: a15 :: a16 :: a17 :: a18 :: a19 :: a20 :: a21 :: .own x :: l) := noRfl rfl
theorem sov22 {a0 a1 a2 a3 a4 a5 a6 a7 a8 a9 a10 a11 a12 a13 a14 a15 a16 a17 a18 a19 a20 a21 : Sl} {l : En} {d : D} {x : List D} : seto (a0 :: a1 :: a2 :: a3 :: a4 :: a5 :: a6 :: a7 :: a8 :: a9 :: a10 :: a11 :: a12 :: a13 :: a14 :: a15 :: a16 :: a17 :: a18 :: a19 :: a20 :: a21 :: .val d :: l) 22 x = some (a0 :: a1 :: a2 :: a3 :: a4 :: a5 :: a6 :: a7 :: a8 :: a9 :: a10 :: a11 :: a12 :: a13 :: a14 :: a15 :: a16 :: a17 :: a18 :: a19 :: a20 :: a21 :: .own x :: l) := noRfl rfl
theorem soo22 {a0 a1 a2 a3 a4 a5 a6 a7 a8 a9 a10 a11 a12 a13 a14 a15 a16 a17 a18 a19 a20 a21 : Sl} {l : En} {d x : List D} : seto (a0 :: a1 :: a2 :: a3 :: a4 :: a5 :: a6 :: a7 :: a8 :: a9 :: a10 :: a11 :: a12 :: a13 :: a14 :: a15 :: a16 :: a17 :: a18 :: a19 :: a20 :: a21 :: .own d :: l) 22 x = some (a0 :: a1 :: a2 :: a3 :: a4 :: a5 :: a6 :: a7 :: a8 :: a9 :: a10 :: a11 :: a12 :: a13 :: a14 :: a15 :: a16 :: a17 :: a18 :: a19 :: a20 :: a21 :: .own x :: l) := noRfl rfl
theorem st22 {a0 a1 a2 a3 a4 a5 a6 a7 a8 a9 a10 a11 a12 a13 a14 a15 a16 a17 a18 a19 a20 a21 : Sl} {l : En} {s x : Sl} : (a0 :: a1 :: a2 :: a3 :: a4 :: a5 :: a6 :: a7 :: a8 :: a9 :: a10 :: a11 :: a12 :: a13 :: a14 :: a15 :: a16 :: a17 :: a18 :: a19 :: a20 :: a21 :: s :: l).set 22 x = a0 :: a1 :: a2 :: a3 :: a4 :: a5 :: a6 :: a7 :: a8 :: a9 :: a10 :: a11 :: a12 :: a13 :: a14 :: a15 :: a16 :: a17 :: a18 :: a19 :: a20 :: a21 :: x :: l := noRfl rfl
theorem gt22 {a0 a1 a2 a3 a4 a5 a6 a7 a8 a9 a10 a11 a12 a13 a14 a15 a16 a17 a18 a19 a20 a21 : Sl} {l : En} {s : Sl} : (a0 :: a1 :: a2 :: a3 :: a4 :: a5 :: a6 :: a7 :: a8 :: a9 :: a10 :: a11 :: a12 :: a13 :: a14 :: a15 :: a16 :: a17 :: a18 :: a19 :: a20 :: a21 :: s :: l)[22]? = some s := noRfl rfl
theorem mo22 {a0 a1 a2 a3 a4 a5 a6 a7 a8 a9 a10 a11 a12 a13 a14 a15 a16 a17 a18 a19 a20 a21 : Sl} {l : En} {d : List D} : mutL (a0 :: a1 :: a2 :: a3 :: a4 :: a5 :: a6 :: a7 :: a8 :: a9 :: a10 :: a11 :: a12 :: a13 :: a14 :: a15 :: a16 :: a17 :: a18 :: a19 :: a20 :: a21 :: .own d :: l) 22 = some d := noRfl rfl
theorem po22 {a0 a1 a2 a3 a4 a5 a6 a7 a8 a9 a10 a11 a12 a13 a14 a15 a16 a17 a18 a19 a20 a21 : Sl} {l : En} {d x : List D} : putL (a0 :: a1 :: a2 :: a3 :: a4 :: a5 :: a6 :: a7 :: a8 :: a9 :: a10 :: a11 :: a12 :: a13 :: a14 :: a15 :: a16 :: a17 :: a18 :: a19 :: a20 :: a21 :: .own d :: l) 22 x = some (a0 :: a1 :: a2 :: a3 :: a4 :: a5 :: a6 :: a7 :: a8 :: a9 :: a10 :: a11 :: a12 :: a13 :: a14 :: a15 :: a16 :: a17 :: a18 :: a19 :: a20 :: a21 :: .own x :: l) := noRfl rfl
theorem la22 {a0 a1 a2 a3 a4 a5 a6 a7 a8 a9 a10 a11 a12 a13 a14 a15 a16 a17 a18 a19 a20 a21 : Sl} {l : En} {d : List D} : lstAt (a0 :: a1 :: a2 :: a3 :: a4 :: a5 :: a6 :: a7 :: a8 :: a9 :: a10 :: a11 :: a12 :: a13 :: a14 :: a15 :: a16 :: a17 :: a18 :: a19 :: a20 :: a21 :: .own d :: l) 22 = some d := noRfl rfl
theorem lv22 {a0 a1 a2 a3 a4 a5 a6 a7 a8 a9 a10 a11 a12 a13 a14 a15 a16 a17 a18 a19 a20 a21 : Sl} {l : En} {d : List D} : lstAt (a0 :: a1 :: a2 :: a3 :: a4 :: a5 :: a6 :: a7 :: a8 :: a9 :: a10 :: a11 :: a12 :: a13 :: a14 :: a15 :: a16 :: a17 :: a18 :: a19 :: a20 :: a21 :: .val (.list d) :: l) 22 = some d := noRfl rfl
theorem nm23 {a0 a1 a2 a3 a4 a5 a6 a7 a8 a9 a10 a11 a12 a13 a14 a15 a16 a17 a18 a19 a20 a21 a22 : Sl} {l : En} {d : D} : eNm 23 (a0 :: a1 :: a2 :: a3 :: a4 :: a5 :: a6 :: a7 :: a8 :: a9 :: a10 :: a11 :: a12 :: a13 :: a14 :: a15 :: a16 :: a17 :: a18 :: a19 :: a20 :: a21 :: a22 :: .val d :: l) = some (d, a0 :: a1 :: a2 :: a3 :: a4 :: a5 :: a6 :: a7 :: a8 :: a9 :: a10 :: a11 :: a12 :: a13 :: a14 :: a15 :: a16 :: a17 :: a18 :: a19 :: a20 :: a21 :: a22 :: .val d :: l) := noRfl rfl
theorem no23 {a0 a1 a2 a3 a4 a5 a6 a7 a8 a9 a10 a11 a12 a13 a14 a15 a16 a17 a18 a19 a20 a21 a22 : Sl} {l : En} {d : List D} : eNm 23 (a0 :: a1 :: a2 :: a3 :: a4 :: a5 :: a6 :: a7 :: a8 :: a9 :: a10 :: a11 :: a12 :: a13 :: a14 :: a15 :: a16 :: a17 :: a18 :: a19 :: a20 :: a21 :: a22 :: .own d :: l) = some (.list d, a0 :: a1 :: a2 :: a3 :: a4 :: a5 :: a6 :: a7 :: a8 :: a9 :: a10 :: a11 :: a12 :: a13 :: a14 :: a15 :: a16 :: a17 :: a18 :: a19 :: a20 :: a21 :: a22 :: .val (.list d) :: l) := noRfl rfl
theorem svu23 {a0 a1 a2 a3 a4 a5 a6 a7 a8 a9 a10 a11 a12 a13 a14 a15 a16 a17 a18 a19 a20 a21 a22 : Sl} {l : En} {x : D} : setv (a0 :: a1 :: a2 :: a3 :: a4 :: a5 :: a6 :: a7 :: a8 :: a9 :: a10 :: a11 :: a12 :: a13 :: a14 :: a15 :: a16 :: a17 :: a18 :: a19 :: a20 :: a21 :: a22 :: .un :: l) 23 x = some (a0 :: a1 :: a2 :: a3 :: a4 :: a5 :: a6 :: a7 :: a8 :: a9 :: a10 :: a11 :: a12 :: a13 :: a14 :: a15 :: a16 :: a17 :: a18 :: a19 :: a20 :: a21 :: a22 :: .val x :: l) := noRfl rfl
theorem svv23 {a0 a1 a2 a3 a4 a5 a6 a7 a8 a9 a10 a11 a12 a13 a14 a15 a16 a17 a18 a19 a20 a21 a22 : Sl} {l : En} {d x : D} : setv (a0 :: a1 :: a2 :: a3 :: a4 :: a5 :: a6 :: a7 :: a8 :: a9 :: a10 :: a11 :: a12 :: a13 :: a14 :: a15 :: a16 :: a17 :: a18 :: a19 :: a20 :: a21 :: a22 :: .val d :: l) 23 x = some (a0 :: a1 :: a2 :: a3 :: a4 :: a5 :: a6 :: a7 :: a8 :: a9 :: a10 :: a11 :: a12 :: a13 :: a14 :: a15 :: a16 :: a17 :: a18 :: a19 :: a20 :: a21 :: a22 :: .val x :: l) := noRfl rfl
theorem svo23 {a0 a1 a2 a3 a4 a5 a6 a7 a8 a9 a10 a11 a12 a13 a14 a15 a16 a17 a18 a19 a20 a21 a22 : Sl} {l : En} {d : List D} {x : D} : setv (a0 :: a1 :: a2 :: a3 :: a4 :: a5 :: a6 :: a7 :: a8 :: a9 :: a10 :: a11 :: a12 :: a13 :: a14 :: a15 :: a16 :: a17 :: a18 :: a19 :: a20 :: a21 :: a22 :: .own d :: l) 23 x = some (a0 :: a1 :: a2 :: a3 :: a4 :: a5 :: a6 :: a7 :: a8 :: a9 :: a10 :: a11 :: a12 :: a13 :: a14 :: a15 :: a16 :: a17 :: a18 :: a19 :: a20 :: a21 :: a22 :: .val x :: l) := noRfl rfl
theorem sou23 {a0 a1 a2 a3 a4 a5 a6 a7 a8 a9 a10 a11 a12 a13 a14 a15 a16 a17 a18 a19 a20 a21 a22 : Sl} {l : En} {x : List D} : seto (a0 :: a1 :: a2 :: a3 :: a4 :: a5 :: a6 :: a7 :: a8 :: a9 :: a10 :: a11 :: a12 :: a13 :: a14 :: a15 :: a16 :: a17 :: a18 :: a19 :: a20 :: a21 :: a22 :: .un :: l) 23 x = some (a0 :: a1 :: a2 :: a3 :: a4 :: a5 :: a6 :: a7 :: a8 :: a9 :: a10 :: a11 :: a12 :: a13 :: a14 :: a15 :: a16 :: a17 :: a18 :: a19 :: a20 :: a21 :: a22 :: .own x :: l) := noRfl rfl
theorem sov23 {a0 a1 a2 a3 a4 a5 a6 a7 a8 a9 a10 a11 a12 a13 a14 a15 a16 a17 a18 a19 a20 a21 a22 : Sl} {l : En} {d : D} {x : List D} : seto (a0 :: a1 :: a2 :: a3 :: a4 :: a5 :: a6 :: a7 :: a8 :: a9 :: a10 :: a11 :: a12 :: a13 :: a14 :: a15 :: a16 :: a17 :: a18 :: a19 :: a20 :: a21 :: a22 :: .val d :: l) 23 x = some (a0 :: a1 :: a2 :: a3 :: a4 :: a5 :: a6 :: a7 :: a8 :: a9 :: a10 :: a11 :: a12 :: a13 :: a14 :: a15 :: a16 :: a17 :: a18 :: a19 :: a20 :: a21 :: a22 :: .own x :: l) := noRfl rfl
theorem soo23 {a0 a1 a2 a3 a4 a5 a6 a7 a8 a9 a10 a11 a12 a13 a14 a15 a16 a17 a18 a19 a20 a21 a22 : Sl} {l : En} {d x : List D} : seto (a0 :: a1 :: a2 :: a3 :: a4 :: a5 :: a6 :: a7 :: a8 :: a9 :: a10 :: a11 :: a12 :: a13 :: a14 :: a15 :: a16 :: a17 :: a18 :: a19 :: a20 :: a21 :: a22 :: .own d :: l) 23 x = some (a0 :: a1 :: a2 :: a3 :: a4 :: a5 :: a6 :: a7 :: a8 :: a9 :: a10 :: a11 :: a12 :: a13 :: a14 :: a15 :: a16 :: a17 :: a18 :: a19 :: a20 :: a21 :: a22 :: .own x :: l) := noRfl rfl
theorem st23 {a0 a1 a2 a3 a4 a5 a6 a7 a8 a9 a10 a11 a12 a13 a14 a15 a16 a17 a18 a19 a20 a21 a22 : Sl} {l : En} {s x : Sl} : (a0 :: a1 :: a2 :: a3 :: a4 :: a5 :: a6 :: a7 :: a8 :: a9 :: a10 :: a11 :: a12 :: a13 :: a14 :: a15 :: a16 :: a17 :: a18 :: a19 :: a20 :: a21 :: a22 :: s :: l).set 23 x = a0 :: a1 :: a2 :: a3 :: a4 :: a5 :: a6 :: a7 :: a8 :: a9 :: a10 :: a11 :: a12 :: a13 :: a14 :: a15 :: a16 :: a17 :: a18 :: a19 :: a20 :: a21 :: a22 :: x :: l := noRfl rfl
theorem gt23 {a0 a1 a2 a3 a4 a5 a6 a7 a8 a9 a10 a11 a12 a13 a14 a15 a16 a17 a18 a19 a20 a21 a22 : Sl} {l : En} {s : Sl} : (a0 :: a1 :: a2 :: a3 :: a4 :: a5 :: a6 :: a7 :: a8 :: a9 :: a10 :: a11 :: a12 :: a13 :: a14 :: a15 :: a16 :: a17 :: a18 :: a19 :: a20 :: a21 :: a22 :: s :: l)[23]? = some s := noRfl rfl
theorem mo23 {a0 a1 a2 a3 a4 a5 a6 a7 a8 a9 a10 a11 a12 a13 a14 a15 a16 a17 a18 a19 a20 a21 a22 : Sl} {l : En} {d : List D} : mutL (a0 :: a1 :: a2 :: a3 :: a4 :: a5 :: a6 :: a7 :: a8 :: a9 :: a10 :: a11 :: a12 :: a13 :: a14 :: a15 :: a16 :: a17 :: a18 :: a19 :: a20 :: a21 :: a22 :: .own d :: l) 23 = some d := noRfl rfl
theorem po23 {a0 a1 a2 a3 a4 a5 a6 a7 a8 a9 a10 a11 a12 a13 a14 a15 a16 a17 a18 a19 a20 a21 a22 : Sl} {l : En} {d x : List D} : putL (a0 :: a1 :: a2 :: a3 :: a4 :: a5 :: a6 :: a7 :: a8 :: a9 :: a10 :: a11 :: a12 :: a13 :: a14 :: a15 :: a16 :: a17 :: a18 :: a19 :: a20 :: a21 :: a22 :: .own d :: l) 23 x = some (a0 :: a1 :: a2 :: a3 :: a4 :: a5 :: a6 :: a7 :: a8 :: a9 :: a10 :: a11 :: a12 :: a13 :: a14 :: a15 :: a16 :: a17 :: a18 :: a19 :: a20 :: a21 :: a22 :: .own x :: l) := noRfl rfl
theorem la23 {a0 a1 a2 a3 a4 a5 a6 a7 a8 a9 a10 a11 a12 a13 a14 a15 a16 a17 a18 a19 a20 a21 a22 : Sl} {l : En} {d : List D} : lstAt (a0 :: a1 :: a2 :: a3 :: a4 :: a5 :: a6 :: a7 :: a8 :: a9 :: a10 :: a11 :: a12 :: a13 :: a14 :: a15 :: a16 :: a17 :: a18 :: a19 :: a20 :: a21 :: a22 :: .own d :: l) 23 = some d := noRfl rfl
theorem lv23 {a0 a1 a2 a3 a4 a5 a6 a7 a8 a9 a10 a11 a12 a13 a14 a15 a16 a17 a18 a19 a20 a21 a22 : Sl} {l : En} {d : List D} : lstAt (a0 :: a1 :: a2 :: a3 :: a4 :: a5 :: a6 :: a7 :: a8 :: a9 :: a10 :: a11 :: a12 :: a13 :: a14 :: a15 :: a16 :: a17 :: a18 :: a19 :: a20 :: a21 :: a22 :: .val (.list d) :: l) 23 = some d := noRfl rfl
theorem nm24 {a0 a1 a2 a3 a4 a5 a6 a7 a8 a9 a10 a11 a12 a13 a14 a15 a16 a17 a18 a19 a20 a21 a22 a23 : Sl} {l : En} {d : D} : eNm 24 (a0 :: a1 :: a2 :: a3 :: a4 :: a5 :: a6 :: a7 :: a8 :: a9 :: a10 :: a11 :: a12 :: a13 :: a14 :: a15 :: a16 :: a17 :: a18 :: a19 :: a20 :: a21 :: a22 :: a23 :: .val d :: l) = some (d, a0 :: a1 :: a2 :: a3 :: a4 :: a5 :: a6 :: a7 :: a8 :: a9 :: a10 :: a11 :: a12 :: a13 :: a14 :: a15 :: a16 :: a17 :: a18 :: a19 :: a20 :: a21 :: a22 :: a23 :: .val d :: l) := noRfl rfl
theorem no24 {a0 a1 a2 a3 a4 a5 a6 a7 a8 a9 a10 a11 a12 a13 a14 a15 a16 a17 a18 a19 a20 a21 a22 a23 : Sl} {l : En} {d : List D} : eNm 24 (a0 :: a1 :: a2 :: a3 :: a4 :: a5 :: a6 :: a7 :: a8 :: a9 :: a10 :: a11 :: a12 :: a13 :: a14 :: a15 :: a16 :: a17 :: a18 :: a19 :: a20 :: a21 :: a22 :: a23 :: .own d :: l) = some (.list d, a0 :: a1 :: a2 :: a3 :: a4 :: a5 :: a6 :: a7 :: a8 :: a9 :: a10 :: a11 :: a12 :: a13 :: a14 :: a15 :: a16 :: a17 :: a18 :: a19 :: a20 :: a21 :: a22 :: a23 :: .val (.list d) :: l) := noRfl rfl
theorem svu24 {a0 a1 a2 a3 a4 a5 a6 a7 a8 a9 a10 a11 a12 a13 a14 a15 a16 a17 a18 a19 a20 a21 a22 a23 : Sl} {l : En} {x : D} : setv (a0 :: a1 :: a2 :: a3 :: a4 :: a5 :: a6 :: a7 :: a8 :: a9 :: a10 :: a11 :: a12 :: a13 :: a14 :: a15 :: a16 :: a17 :: a18 :: a19 :: a20 :: a21 :: a22 :: a23 :: .un :: l) 24 x = some (a0 :: a1 :: a2 :: a3 :: a4 :: a5 :: a6 :: a7 :: a8 :: a9 :: a10 :: a11 :: a12 :: a13 :: a14 :: a15 :: a16 :: a17 :: a18 :: a19 :: a20 :: a21 :: a22 :: a23 :: .val x :: l) := noRfl rfl
theorem svv24 {a0 a1 a2 a3 a4 a5 a6 a7 a8 a9 a10 a11 a12 a13 a14 a15 a16 a17 a18 a19 a20 a21 a22 a23 : Sl} {l : En} {d x : D} : setv (a0 :: a1 :: a2 :: a3 :: a4 :: a5 :: a6 :: a7 :: a8 :: a9 :: a10 :: a11 :: a12 :: a13 :: a14 :: a15 :: a16 :: a17 :: a18 :: a19 :: a20 :: a21 :: a22 :: a23 :: .val d :: l) 24 x = some (a0 :: a1 :: a2 :: a3 :: a4 :: a5 :: a6 :: a7 :: a8 :: a9 :: a10 :: a11 :: a12 :: a13 :: a14 :: a15 :: a16 :: a17 :: a18 :: a19 :: a20 :: a21 :: a22 :: a23 :: .val x :: l) := noRfl rfl
theorem svo24 {a0 a1 a2 a3 a4 a5 a6 a7 a8 a9 a10 a11 a12 a13 a14 a15 a16 a17 a18 a19 a20 a21 a22 a23 : Sl} {l : En} {d : List D} {x : D} : setv (a0 :: a1 :: a2 :: a3 :: a4 :: a5 :: a6 :: a7 :: a8 :: a9 :: a10 :: a11 :: a12 :: a13 :: a14 :: a15 :: a16 :: a17 :: a18 :: a19 :: a20 :: a21 :: a22 :: a23 :: .own d :: l) 24 x = some (a0 :: a1 :: a2 :: a3 :: a4 :: a5 :: a6 :: a7 :: a8 :: a9 :: a10 :: a11 :: a12 :: a13 :: a14 :: a15 :: a16 :: a17 :: a18 :: a19 :: a20 :: a21 :: a22 :: a23 :: .val x :: l) := noRfl rfl
theorem sou24 {a0 a1 a2 a3 a4 a5 a6 a7 a8 a9 a10 a11 a12 a13 a14 a15 a16 a17 a18 a19 a20 a21 a22 a23 : Sl} {l : En} {x : List D} : seto (a0 :: a1 :: a2 :: a3 :: a4 :: a5 :: a6 :: a7 :: a8 :: a9 :: a10 :: a11 :: a12 :: a13 :: a14 :: a15 :: a16 :: a17 :: a18 :: a19 :: a20 :: a21 :: a22 :: a23 :: .un :: l) 24 x = some (a0 :: a1 :: a2 :: a3 :: a4 :: a5 :: a6 :: a7 :: a8 :: a9 :: a10 :: a11 :: a12 :: a13 :: a14 :: a15 :: a16 :: a17 :: a18 :: a19 :: a20 :: a21 :: a22 :: a23 :: .own x :: l) := noRfl rfl
theorem sov24 {a0 a1 a2 a3 a4 a5 a6 a7 a8 a9 a10 a11 a12 a13 a14 a15 a16 a17 a18 a19 a20 a21 a22 a23 : Sl} {l : En} {d : D} {x : List D} : seto (a0 :: a1 :: a2 :: a3 :: a4 :: a5 :: a6 :: a7 :: a8 :: a9 :: a10 :: a11 :: a12 :: a13 :: a14 :: a15 :: a16 :: a17 :: a18 :: a19 :: a20 :: a21 :: a22 :: a23 :: .val d :: l) 24 x = some (a0 :: a1 :: a2 :: a3 :: a4 :: a5 :: a6 :: a7 :: a8 :: a9 :: a10 :: a11 :: a12 :: a13 :: a14 :: a15 :: a16 :: a17 :: a18 :: a19 :: a20 :: a21 :: a22 :: a23 :: .own x :: l) := noRfl rfl
theorem soo24 {a0 a1 a2 a3 a4 a5 a6 a7 a8 a9 a10 a11 a12 a13 a14 a15 a16 a17 a18 a19 a20 a21 a22 a23 : Sl} {l : En} {d x : List D} : seto (a0 :: a1 :: a2 :: a3 :: a4 :: a5 :: a6 :: a7 :: a8 :: a9 :: a10 :: a11 :: a12 :: a13 :: a14 :: a15 :: a16 :: a17 :: a18 :: a19 :: a20 :: a21 :: a22 :: a23 :: .own d :: l) 24 x = some (a0 :: a1 :: a2 :: a3 :: a4 :: a5 :: a6 :: a7 :: a8 :: a9 :: a10 :: a11 :: a12 :: a13 :: a14 :: a15 :: a16 :: a17 :: a18 :: a19 :: a20 :: a21 :: a22 :: a23 :: .own x :: l) := noRfl rfl
theorem st24 {a0 a1 a2 a3 a4 a5 a6 a7 a8 a9 a10 a11 a12 a13 a14 a15 a16 a17 a18 a19 a20 a21 a22 a23 : Sl} {l : En} {s x : Sl} : (a0 :: a1 :: a2 :: a3 :: a4 :: a5 :: a6 :: a7 :: a8 :: a9 :: a10 :: a11 :: a12 :: a13 :: a14 :: a15 :: a16 :: a17 :: a18 :: a19 :: a20 :: a21 :: a22 :: a23 :: s :: l).set 24 x = a0 :: a1 :: a2 :: a3 :: a4 :: a5 :: a6 :: a7 :: a8 :: a9 :: a10 :: a11 :: a12 :: a13 :: a14 :: a15 :: a16 :: a17 :: a18 :: a19 :: a20 :: a21 :: a22 :: a23 :: x :: l := noRfl rfl
theorem gt24 {a0 a1 a2 a3 a4 a5 a6 a7 a8 a9 a10 a11 a12 a13 a14 a15 a16 a17 a18 a19 a20 a21 a22 a23 : Sl} {l : En} {s : Sl} : (a0 :: a1 :: a2 :: a3 :: a4 :: a5 :: a6 :: a7 :: a8 :: a9 :: a10 :: a11 :: a12 :: a13 :: a14 :: a15 :: a16 :: a17 :: a18 :: a19 :: a20 :: a21 :: a22 :: a23 :: s :: l)[24]? = some s := noRfl rfl
theorem mo24 {a0 a1 a2 a3 a4 a5 a6 a7 a8 a9 a10 a11 a12 a13 a14 a15 a16 a17 a18 a19 a20 a21 a22 a23 : Sl} {l : En} {d : List D} : mutL (a0 :: a1 :: a2 :: a3 :: a4 :: a5 :: a6 :: a7 :: a8 :: a9 :: a10 :: a11 :: a12 :: a13 :: a14 :: a15 :: a16 :: a17 :: a18 :: a19 :: a20 :: a21 :: a22 :: a23 :: .own d :: l) 24 = some d := noRfl rfl
theorem po24 {a0 a1 a2 a3 a4 a5 a6 a7 a8 a9 a10 a11 a12 a13 a14 a15 a16 a17 a18 a19 a20 a21 a22 a23 : Sl} {l : En} {d x : List D} : putL (a0 :: a1 :: a2 :: a3 :: a4 :: a5 :: a6 :: a7 :: a8 :: a9 :: a10 :: a11 :: a12 :: a13 :: a14 :: a15 :: a16 :: a17 :: a18 :: a19 :: a20 :: a21 :: a22 :: a23 :: .own d :: l) 24 x = some (a0 :: a1 :: a2 :: a3 :: a4 :: a5 :: a6 :: a7 :: a8 :: a9 :: a10 :: a11 :: a12 :: a13 :: a14 :: a15 :: a16 :: a17 :: a18 :: a19 :: a20 :: a21 :: a22 :: a23 :: .own x :: l) := noRfl rfl
theorem la24 {a0 a1 a2 a3 a4 a5 a6 a7 a8 a9 a10 a11 a12 a13 a14 a15 a16 a17 a18 a19 a20 a21 a22 a23 : Sl} {l : En} {d : List D} : lstAt (a0 :: a1 :: a2 :: a3 :: a4 :: a5 :: a6 :: a7 :: a8 :: a9 :: a10 :: a11 :: a12 :: a13 :: a14 :: a15 :: a16 :: a17 :: a18 :: a19 :: a20 :: a21 :: a22 :: a23 :: .own d :: l) 24 = some d := noRfl rfl
theorem lv24 {a0 a1 a2 a3 a4 a5 a6 a7 a8 a9 a10 a11 a12 a13 a14 a15 a16 a17 a18 a19 a20 a21 a22 a23 : Sl} {l : En} {d : List D} : lstAt (a0 :: a1 :: a2 :: a3 :: a4 :: a5 :: a6 :: a7 :: a8 :: a9 :: a10 :: a11 :: a12 :: a13 :: a14 :: a15 :: a16 :: a17 :: a18 :: a19 :: a20 :: a21 :: a22 :: a23 :: .val (.list d) :: l) 24 = some d := noRfl rfl
theorem nm25 {a0 a1 a2 a3 a4 a5 a6 a7 a8 a9 a10 a11 a12 a13 a14 a15 a16 a17 a18 a19 a20 a21 a22 a23 a24 : Sl} {l : En} {d : D} : eNm 25 (a0 :: a1 :: a2 :: a3 :: a4 :: a5 :: a6 :: a7 :: a8 :: a9 :: a10 :: a11 :: a12 :: a13 :: a14 :: a15 :: a16 :: a17 :: a18 :: a19 :: a20 :: a21 :: a22 :: a23 :: a24 :: .val d :: l) = some (d, a0 :: a1 :: a2 :: a3 :: a4 :: a5 :: a6 :: a7 :: a8 :: a9 :: a10 :: a11 :: a12 :: a13 :: a14 :: a15 :: a16 :: a17 :: a18 :: a19 :: a20 :: a21 :: a22 :: a23 :: a24 :: .val d :: l) := noRfl rfl
theorem no25 {a0 a1 a2 a3 a4 a5 a6 a7 a8 a9 a10 a11 a12 a13 a14 a15 a16 a17 a18 a19 a20 a21 a22 a23 a24 : Sl} {l : En} {d : List D} : eNm 25 (a0 :: a1 :: a2 :: a3 :: a4 :: a5 :: a6 :: a7 :: a8 :: a9 :: a10 :: a11 :: a12 :: a13 :: a14 :: a15 :: a16 :: a17 :: a18 :: a19 :: a20 :: a21 :: a22 :: a23 :: a24 :: .own d :: l) = some (.list d, a0 :: a1 :: a2 :: a3 :: a4 :: a5 :: a6 :: a7 :: a8 :: a9 :: a10 :: a11 :: a12 :: a13 :: a14 :: a15 :: a16 :: a17 :: a18 :: a19 :: a20 :: a21 :: a22 :: a23 :: a24 :: .val (.list d) :: l) := noRfl rfl
theorem svu25 {a0 a1 a2 a3 a4 a5 a6 a7 a8 a9 a10 a11 a12 a13 a14 a15 a16 a17 a18 a19 a20 a21 a22 a23 a24 : Sl} {l : En} {x : D} : setv (a0 :: a1 :: a2 :: a3 :: a4 :: a5 :: a6 :: a7 :: a8 :: a9 :: a10 :: a11 :: a12 :: a13 :: a14 :: a15 :: a16 :: a17 :: a18 :: a19 :: a20 :: a21 :: a22 :: a23 :: a24 :: .un :: l) 25 x = some (a0 :: a1 :: a2 :: a3 :: a4 :: a5 :: a6 :: a7 :: a8 :: a9 :: a10 :: a11 :: a12 :: a13 :: a14 :: a15 :: a16 :: a17 :: a18 :: a19 :: a20 :: a21 :: a22 :: a23 :: a24 :: .val x :: l) := noRfl rfl
theorem svv25 {a0 a1 a2 a3 a4 a5 a6 a7 a8 a9 a10 a11 a12 a13 a14 a15 a16 a17 a18 a19 a20 a21 a22 a23 a24 : Sl} {l : En} {d x : D} : setv (a0 :: a1 :: a2 :: a3 :: a4 :: a5 :: a6 :: a7 :: a8 :: a9 :: a10 :: a11 :: a12 :: a13 :: a14 :: a15 :: a16 :: a17 :: a18 :: a19 :: a20 :: a21 :: a22 :: a23 :: a24 :: .val d :: l) 25 x = some (a0 :: a1 :: a2 :: a3 :: a4 :: a5 :: a6 :: a7 :: a8 :: a9 :: a10 :: a11 :: a12 :: a13 :: a14 :: a15 :: a16 :: a17 :: a18 :: a19 :: a20 :: a21 :: a22 :: a23 :: a24 :: .val x :: l) := noRfl rfl
theorem svo25 {a0 a1 a2 a3 a4 a5 a6 a7 a8 a9 a10 a11 a12 a13 a14 a15 a16 a17 a18 a19 a20 a21 a22 a23 a24 : Sl} {l : En} {d : List D} {x : D} : setv (a0 :: a1 :: a2 :: a3 :: a4 :: a5 :: a6 :: a7 :: a8 :: a9 :: a10 :: a11 :: a12 :: a13 :: a14 :: a15 :: a16 :: a17 :: a18 :: a19 :: a20 :: a21 :: a22 :: a23 :: a24 :: .own d :: l) 25 x = some (a0 :: a1 :: a2 :: a3 :: a4 :: a5 :: a6 :: a7 :: a8 :: a9 :: a10 :: a11 :: a12 :: a13 :: a14 :: a15 :: a16 :: a17 :: a18 :: a19 :: a20 :: a21 :: a22 :: a23 :: a24 :: .val x :: l) := noRfl rfl
theorem sou25 {a0 a1 a2 a3 a4 a5 a6 a7 a8 a9 a10 a11 a12 a13 a14 a15 a16 a17 a18 a19 a20 a21 a22 a23 a24 : Sl} {l : En} {x : List D} : seto (a0 :: a1 :: a2 :: a3 :: a4 :: a5 :: a6 :: a7 :: a8 :: a9 :: a10 :: a11 :: a12 :: a13 :: a14 :: a15 :: a16 :: a17 :: a18 :: a19 :: a20 :: a21 :: a22 :: a23 :: a24 :: .un :: l) 25 x = some (a0 :: a1 :: a2 :: a3 :: a4 :: a5 :: a6 :: a7 :: a8 :: a9 :: a10 :: a11 :: a12 :: a13 :: a14 :: a15 :: a16 :: a17 :: a18 :: a19 :: a20 :: a21 :: a22 :: a23 :: a24 :: .own x :: l) := noRfl rfl
theorem sov25 {a0 a1 a2 a3 a4 a5 a6 a7 a8 a9 a10 a11 a12 a13 a14 a15 a16 a17 a18 a19 a20 a21 a22 a23 a24 : Sl} {l : En} {d : D} {x : List D} : seto (a0 :: a1 :: a2 :: a3 :: a4 :: a5 :: a6 :: a7 :: a8 :: a9 :: a10 :: a11 :: a12 :: a13 :: a14 :: a15 :: a16 :: a17 :: a18 :: a19 :: a20 :: a21 :: a22 :: a23 :: a24 :: .val d :: l) 25 x = some (a0 :: a1 :: a2 :: a3 :: a4 :: a5 :: a6 :: a7 :: a8 :: a9 :: a10 :: a11 :: a12 :: a13 :: a14 :: a15 :: a16 :: a17 :: a18 :: a19 :: a20 :: a21 :: a22 :: a23 :: a24 :: .own x :: l) := noRfl rfl
theorem soo25 {a0 a1 a2 a3 a4 a5 a6 a7 a8 a9 a10 a11 a12 a13 a14 a15 a16 a17 a18 a19 a20 a21 a22 a23 a24 : Sl} {l : En} {d x : List D} : seto (a0 :: a1 :: a2 :: a3 :: a4 :: a5 :: a6 :: a7 :: a8 :: a9 :: a10 :: a11 :: a12 :: a13 :: a14 :: a15 :: a16 :: a17 :: a18 :: a19 :: a20 :: a21 :: a22 :: a23 :: a24 :: .own d :: l) 25 x = some (a0 :: a1 :: a2 :: a3 :: a4 :: a5 :: a6 :: a7 :: a8 :: a9 :: a10 :: a11 :: a12 :: a13 :: a14 :: a15 :: a16 :: a17 :: a18 :: a19 :: a20 :: a21 :: a22 :: a23 :: a24 :: .own x :: l) := noRfl rfl
theorem st25 {a0 a1 a2 a3 a4 a5 a6 a7 a8 a9 a10 a11 a12 a13 a14 a15 a16 a17 a18 a19 a20 a21 a22 a23 a24 : Sl} {l : En} {s x : Sl} : (a0 :: a1 :: a2 :: a3 :: a4 :: a5 :: a6 :: a7 :: a8 :: a9 :: a10 :: a11 :: a12 :: a13 :: a14 :: a15 :: a16 :: a17 :: a18 :: a19 :: a20 :: a21 :: a22 :: a23 :: a24 :: s :: l).set 25 x = a0 :: a1 :: a2 :: a3 :: a4 :: a5 :: a6 :: a7 :: a8 :: a9 :: a10 :: a11 :: a12 :: a13 :: a14 :: a15 :: a16 :: a17 :: a18 :: a19 :: a20 :: a21 :: a22 :: a23 :: a24 :: x :: l := noRfl rfl
theorem gt25 {a0 a1 a2 a3 a4 a5 a6 a7 a8 a9 a10 a11 a12 a13 a14 a15 a16 a17 a18 a19 a20 a21 a22 a23 a24 : Sl} {l : En} {s : Sl} : (a0 :: a1 :: a2 :: a3 :: a4 :: a5 :: a6 :: a7 :: a8 :: a9 :: a10 :: a11 :: a12 :: a13 :: a14 :: a15 :: a16 :: a17 :: a18 :: a19 :: a20 :: a21 :: a22 :: a23 :: a24 :: s :: l)[25]? = some s := noRfl rfl
theorem mo25 {a0 a1 a2 a3 a4 a5 a6 a7 a8 a9 a10 a11 a12 a13 a14 a15 a16 a17 a18 a19 a20 a21 a22 a23 a24 : Sl} {l : En} {d : List D} : mutL (a0 :: a1 :: a2 :: a3 :: a4 :: a5 :: a6 :: a7 :: a8 :: a9 :: a10 :: a11 :: a12 :: a13 :: a14 :: a15 :: a16 :: a17 :: a18 :: a19 :: a20 :: a21 :: a22 :: a23 :: a24 :: .own d :: l) 25 = some d := noRfl rfl
theorem po25 {a0 a1 a2 a3 a4 a5 a6 a7 a8 a9 a10 a11 a12 a13 a14 a15 a16 a17 a18 a19 a20 a21 a22 a23 a24 : Sl} {l : En} {d x : List D} : putL (a0 :: a1 :: a2 :: a3 :: a4 :: a5 :: a6 :: a7 :: a8 :: a9 :: a10 :: a11 :: a12 :: a13 :: a14 :: a15 :: a16 :: a17 :: a18 :: a19 :: a20 :: a21 :: a22 :: a23 :: a24 :: .own d :: l) 25 x = some (a0 :: a1 :: a2 :: a3 :: a4 :: a5 :: a6 :: a7 :: a8 :: a9 :: a10 :: a11 :: a12 :: a13 :: a14 :: a15 :: a16 :: a17 :: a18 :: a19 :: a20 :: a21 :: a22 :: a23 :: a24 :: .own x :: l) := noRfl rfl
theorem la25 {a0 a1 a2 a3 a4 a5 a6 a7 a8 a9 a10 a11 a12 a13 a14 a15 a16 a17 a18 a19 a20 a21 a22 a23 a24 : Sl} {l : En} {d : List D} : lstAt (a0 :: a1 :: a2 :: a3 :: a4 :: a5 :: a6 :: a7 :: a8 :: a9 :: a10 :: a11 :: a12 :: a13 :: a14 :: a15 :: a16 :: a17 :: a18 :: a19 :: a20 :: a21 :: a22 :: a23 :: a24 :: .own d :: l) 25 = some d := noRfl rfl
theorem lv25 {a0 a1 a2 a3 a4 a5 a6 a7 a8 a9 a10 a11 a12 a13 a14 a15 a16 a17 a18 a19 a20 a21 a22 a23 a24 : Sl} {l : En} {d : List D} : lstAt (a0 :: a1 :: a2 :: a3 :: a4 :: a5 :: a6 :: a7 :: a8 :: a9 :: a10 :: a11 :: a12 :: a13 :: a14 :: a15 :: a16 :: a17 :: a18 :: a19 :: a20 :: a21 :: a22 :: a23 :: a24 :: .val (.list d) :: l) 25 = some d := noRfl rfl
theorem e_C {s : Sl} {e : En} {d : D} : eC d (s :: e) = some (d, s :: e) := noRfl rfl
theorem e_Seq {s : Sl} {e : En} {m n : SS} : sSeq m n (s :: e) = seqB (m (s :: e)) n := by unfold sSeq seqB; cases m (s :: e) with | none => rfl | some o => cases o <;> rfl
theorem q_nx {e : En} {n : SS} : seqB (some (.nx e)) n = n e := noRfl rfl
theorem q_rt {e : En} {n : SS} {d : D} : seqB (some (.rt d e)) n = some (.rt d e) := noRfl rfl
theorem q_bk {e : En} {n : SS} : seqB (some (.bk e)) n = some (.bk e) := noRfl rfl
theorem q_ct {e : En} {n : SS} : seqB (some (.ct e)) n = some (.ct e) := noRfl rfl
theorem e_If {s : Sl} {e : En} {t : ST} {m n : SS} : sIf t m n (s :: e) = ifB (t (s :: e)) m n := by unfold sIf ifB; cases t (s :: e) with | none => rfl | some p => obtain ⟨b, e2⟩ := p; cases b <;> rfl
theorem i_t {e : En} {m n : SS} : ifB (some (true, e)) m n = m e := noRfl rfl
theorem i_f {e : En} {m n : SS} : ifB (some (false, e)) m n = n e := noRfl rfl
theorem e_Next {s : Sl} {e : En} : sNext (s :: e) = some (.nx (s :: e)) := noRfl rfl
theorem e_RetN {s : Sl} {e : En} : sRetN (s :: e) = some (.rt .none (s :: e)) := noRfl rfl
theorem e_Break {s : Sl} {e : En} : sBreak (s :: e) = some (.bk (s :: e)) := noRfl rfl
theorem e_Cont {s : Sl} {e : En} : sCont (s :: e) = some (.ct (s :: e)) := noRfl rfl
theorem e_Ret {s : Sl} {e : En} {m : SE} : sRet m (s :: e) = retB (m (s :: e)) := by unfold sRet retB; cases m (s :: e) <;> rfl
theorem r_s {e : En} {d : D} : retB (some (d, e)) = some (.rt d e) := noRfl rfl
theorem e_Expr {s : Sl} {e : En} {m : SE} : sExpr m (s :: e) = expB (m (s :: e)) := by unfold sExpr expB; cases m (s :: e) <;> rfl
theorem x_s {e : En} {d : D} : expB (some (d, e)) = some (.nx e) := noRfl rfl
theorem nx_s {e : En} : nxB (some e) = some (.nx e) := noRfl rfl
theorem e_Set {s : Sl} {e : En} {m : SE} {i : Nat} : sSet i m (s :: e) = setB (m (s :: e)) i := by unfold sSet setB; cases m (s :: e) with | none => rfl | some p => obtain ⟨d, e2⟩ := p; show (setv e2 i d).map _ = nxB (setv e2 i d); cases setv e2 i d <;> rfl
theorem set_s {e : En} {d : D} {i : Nat} : setB (some (d, e)) i = nxB (setv e i d) := noRfl rfl
theorem e_Own {s : Sl} {e : En} {m : SF} {i : Nat} : sOwn i m (s :: e) = ownB (m (s :: e)) i := by unfold sOwn ownB; cases m (s :: e) with | none => rfl | some p => obtain ⟨d, e2⟩ := p; show (seto e2 i d).map _ = nxB (seto e2 i d); cases seto e2 i d <;> rfl
theorem own_s {e : En} {d : List D} {i : Nat} : ownB (some (d, e)) i = nxB (seto e i d) := noRfl rfl
theorem e_Asg {s : Sl} {e : En} {m : SE} {g : D → En → Option En} : sAsg m g (s :: e) = asgB (m (s :: e)) g := by unfold sAsg asgB; cases m (s :: e) with | none => rfl | some p => obtain ⟨d, e2⟩ := p; show (g d e2).map _ = nxB (g d e2); cases g d e2 <;> rfl
theorem asg_s {e : En} {d : D} {g : D → En → Option En} : asgB (some (d, e)) g = nxB (g d e) := noRfl rfl
theorem g_nm {e : En} {d : D} {i : Nat} : gNm i d e = setv e i d := noRfl rfl
theorem g_tup {e : En} {ds : List D} {n : Nat} {gs : List D → En → Option En} : gTupD n gs (.tuple ds) e = if ds.length = n then gs ds e else none := noRfl rfl
theorem gs_nil {e : En} : gsNil [] e = some e := noRfl rfl
theorem gs_cons {e : En} {d : D} {r : List D} {g : D → En → Option En} {gs : List D → En → Option En} : gsCons g gs (d :: r) e = gsB (g d e) gs r := by show (g d e).bind (gs r) = gsB (g d e) gs r; cases g d e <;> rfl
theorem gsb_s {e : En} {r : List D} {gs : List D → En → Option En} : gsB (some e) gs r = gs r e := noRfl rfl
theorem e_Par {s : Sl} {e : En} {m : SA} {i j : Nat} : sPar i j m (s :: e) = parB (m (s :: e)) i j := by
  unfold sPar parB
  cases m (s :: e) with
  | none => rfl
  | some p =>
    obtain ⟨ds, e2⟩ := p
    match ds with
    | [a, b] =>
      show (setv e2 i a).bind _ = nxB (par2 (setv e2 i a) j b)
      cases setv e2 i a with
      | none => rfl
      | some e3 => show (setv e3 j b).map _ = nxB (setv e3 j b); cases setv e3 j b <;> rfl
    | [] => rfl
    | [_] => rfl
    | _ :: _ :: _ :: _ => rfl
theorem par_s {e : En} {a b : D} {i j : Nat} : parB (some ([a, b], e)) i j = nxB (par2 (setv e i a) j b) := noRfl rfl
theorem par2_s {e : En} {b : D} {j : Nat} : par2 (some e) j b = setv e j b := noRfl rfl
theorem e_Par3 {s : Sl} {e : En} {m : SA} {i j l : Nat} : sPar3 i j l m (s :: e) = par3B (m (s :: e)) i j l := by
  unfold sPar3 par3B
  cases m (s :: e) with
  | none => rfl
  | some p =>
    obtain ⟨ds, e2⟩ := p
    match ds with
    | [a, b, c] =>
      show (setv e2 i a).bind _ = nxB (par2 (par2 (setv e2 i a) j b) l c)
      cases setv e2 i a with
      | none => rfl
      | some e3 =>
        show (setv e3 j b).bind _ = nxB (par2 (setv e3 j b) l c)
        cases setv e3 j b with
        | none => rfl
        | some e4 => show (setv e4 l c).map _ = nxB (setv e4 l c); cases setv e4 l c <;> rfl
    | [] => rfl
    | [_] => rfl
    | [_, _] => rfl
    | _ :: _ :: _ :: _ :: _ => rfl
theorem par3_s {e : En} {a b c : D} {i j l : Nat} : par3B (some ([a, b, c], e)) i j l = nxB (par2 (par2 (setv e i a) j b) l c) := noRfl rfl
theorem e_Bin {s : Sl} {e : En} {f : D → D → Option D} {ma mb : SE} : eBin f ma mb (s :: e) = binB f (ma (s :: e)) mb := by
  unfold eBin binB
  cases ma (s :: e) with
  | none => rfl
  | some p =>
    obtain ⟨a, e2⟩ := p
    show (mb e2).bind _ = binC f a (mb e2)
    cases mb e2 with
    | none => rfl
    | some r => obtain ⟨b, e3⟩ := r; show (f a b).map _ = binD (f a b) e3; cases f a b <;> rfl
theorem bin_s {e : En} {f : D → D → Option D} {a : D} {mb : SE} : binB f (some (a, e)) mb = binC f a (mb e) := noRfl rfl
theorem binC_s {e : En} {f : D → D → Option D} {a b : D} : binC f a (some (b, e)) = binD (f a b) e := noRfl rfl
theorem binD_s {e : En} {c : D} : binD (some c) e = some (c, e) := noRfl rfl
theorem e_Un {s : Sl} {e : En} {f : D → Option D} {ma : SE} : eUn f ma (s :: e) = unB f (ma (s :: e)) := by unfold eUn unB; cases ma (s :: e) with | none => rfl | some p => obtain ⟨a, e2⟩ := p; show (f a).map _ = binD (f a) e2; cases f a <;> rfl
theorem un_s {e : En} {f : D → Option D} {a : D} : unB f (some (a, e)) = binD (f a) e := noRfl rfl
theorem e_Chain {s : Sl} {e : En} {f g : D → D → Option D} {ma mb mc : SE} : eChain f g ma mb mc (s :: e) = chB f g (ma (s :: e)) mb mc := by
  unfold eChain chB
  cases ma (s :: e) with
  | none => rfl
  | some p =>
    obtain ⟨a, e2⟩ := p
    show (mb e2).bind _ = chC f g a (mb e2) mc
    cases mb e2 with
    | none => rfl
    | some r =>
      obtain ⟨b, e3⟩ := r
      show (f a b).bind _ = chD2 (f a b) g b e3 mc
      cases f a b with
      | none => rfl
      | some c =>
        cases c with
        | bool k =>
          cases k with
          | false => rfl
          | true =>
            show (mc e3).bind _ = binC g b (mc e3)
            cases mc e3 with
            | none => rfl
            | some t => obtain ⟨c, e4⟩ := t; show (g b c).map _ = binD (g b c) e4; cases g b c <;> rfl
        | _ => rfl
theorem ch_s {e : En} {f g : D → D → Option D} {a : D} {mb mc : SE} : chB f g (some (a, e)) mb mc = chC f g a (mb e) mc := noRfl rfl
theorem chC_s {e : En} {f g : D → D → Option D} {a b : D} {mc : SE} : chC f g a (some (b, e)) mc = chD2 (f a b) g b e mc := noRfl rfl
theorem chD_t {e : En} {g : D → D → Option D} {b : D} {mc : SE} : chD2 (some (.bool true)) g b e mc = binC g b (mc e) := noRfl rfl
theorem chD_f {e : En} {g : D → D → Option D} {b : D} {mc : SE} : chD2 (some (.bool false)) g b e mc = some (.bool false, e) := noRfl rfl
theorem e_And {s : Sl} {e : En} {ma mb : SE} : eAnd ma mb (s :: e) = andB (ma (s :: e)) mb := by
  unfold eAnd andB
  cases ma (s :: e) with
  | none => rfl
  | some p =>
    obtain ⟨a, e2⟩ := p
    cases a with
    | bool k => cases k <;> rfl
    | _ => rfl
theorem and_t {e : En} {m : SE} : andB (some (.bool true, e)) m = m e := noRfl rfl
theorem and_f {e : En} {m : SE} : andB (some (.bool false, e)) m = some (.bool false, e) := noRfl rfl
theorem e_Or {s : Sl} {e : En} {ma mb : SE} : eOr ma mb (s :: e) = orB (ma (s :: e)) mb := by
  unfold eOr orB
  cases ma (s :: e) with
  | none => rfl
  | some p =>
    obtain ⟨a, e2⟩ := p
    cases a with
    | bool k => cases k <;> rfl
    | _ => rfl
theorem or_t {e : En} {m : SE} : orB (some (.bool true, e)) m = some (.bool true, e) := noRfl rfl
theorem or_f {e : En} {m : SE} : orB (some (.bool false, e)) m = m e := noRfl rfl
theorem e_Not {s : Sl} {e : En} {ma : SE} : eNot ma (s :: e) = notB (ma (s :: e)) := by
  unfold eNot notB
  cases ma (s :: e) with
  | none => rfl
  | some p =>
    obtain ⟨a, e2⟩ := p
    cases a <;> rfl
theorem not_s {e : En} {b : Bool} : notB (some (.bool b, e)) = some (.bool (!b), e) := noRfl rfl
theorem e_IfE {s : Sl} {e : En} {t : ST} {m n : SE} : eIf t m n (s :: e) = ifeB (t (s :: e)) m n := by unfold eIf ifeB; cases t (s :: e) with | none => rfl | some p => obtain ⟨b, e2⟩ := p; cases b <;> rfl
theorem ife_t {e : En} {m n : SE} : ifeB (some (true, e)) m n = m e := noRfl rfl
theorem ife_f {e : En} {m n : SE} : ifeB (some (false, e)) m n = n e := noRfl rfl
theorem e_Tst {s : Sl} {e : En} {ma : SE} : tst ma (s :: e) = tstB (ma (s :: e)) := by
  unfold tst tstB
  cases ma (s :: e) with
  | none => rfl
  | some p =>
    obtain ⟨a, e2⟩ := p
    cases a <;> rfl
theorem tst_s {e : En} {b : Bool} : tstB (some (.bool b, e)) = some (b, e) := noRfl rfl
theorem e_CAnd {s : Sl} {e : En} {t u : ST} : cAnd t u (s :: e) = cAndB (t (s :: e)) u := by unfold cAnd cAndB; cases t (s :: e) with | none => rfl | some p => obtain ⟨b, e2⟩ := p; cases b <;> rfl
theorem e_COr {s : Sl} {e : En} {t u : ST} : cOr t u (s :: e) = cOrB (t (s :: e)) u := by unfold cOr cOrB; cases t (s :: e) with | none => rfl | some p => obtain ⟨b, e2⟩ := p; cases b <;> rfl
theorem cand_t {e : En} {u : ST} : cAndB (some (true, e)) u = u e := noRfl rfl
theorem cand_f {e : En} {u : ST} : cAndB (some (false, e)) u = some (false, e) := noRfl rfl
theorem cor_t {e : En} {u : ST} : cOrB (some (true, e)) u = some (true, e) := noRfl rfl
theorem cor_f {e : En} {u : ST} : cOrB (some (false, e)) u = u e := noRfl rfl
theorem e_CNot {s : Sl} {e : En} {t : ST} : cNot t (s :: e) = cNotB (t (s :: e)) := by unfold cNot cNotB; cases t (s :: e) <;> rfl
theorem cnot_s {e : En} {b : Bool} : cNotB (some (b, e)) = some (!b, e) := noRfl rfl
theorem e_aN {s : Sl} {e : En} : aNil (s :: e) = some ([], s :: e) := noRfl rfl
theorem e_aC {s : Sl} {e : En} {ma : SE} {mr : SA} : aCons ma mr (s :: e) = consB (ma (s :: e)) mr := by unfold aCons consB; cases ma (s :: e) with | none => rfl | some p => obtain ⟨a, e2⟩ := p; show (mr e2).map _ = consC a (mr e2); cases mr e2 <;> rfl
theorem con_s {e : En} {a : D} {m : SA} : consB (some (a, e)) m = consC a (m e) := noRfl rfl
theorem conC_s {e : En} {a : D} {ds : List D} : consC a (some (ds, e)) = some (a :: ds, e) := noRfl rfl
theorem e_Tup {s : Sl} {e : En} {m : SA} : eTup m (s :: e) = tupB (m (s :: e)) := by unfold eTup tupB; cases m (s :: e) <;> rfl
theorem tup_s {e : En} {ds : List D} : tupB (some (ds, e)) = if ds.length ≤ sizeLine then some (.tuple ds, e) else none := noRfl rfl
theorem e_Lst {s : Sl} {e : En} {m : SA} : fLst m (s :: e) = lstB (m (s :: e)) := by unfold fLst lstB; cases m (s :: e) <;> rfl
theorem lst_s {e : En} {ds : List D} : lstB (some (ds, e)) = if ds.length ≤ sizeLine then some (ds, e) else none := noRfl rfl
theorem e_Of {s : Sl} {e : En} {m : SF} : eOf m (s :: e) = ofB (m (s :: e)) := by unfold eOf ofB; cases m (s :: e) <;> rfl
theorem of_s {e : En} {ds : List D} : ofB (some (ds, e)) = some (.list ds, e) := noRfl rfl
theorem e_Call {s : Sl} {e : En} {f : List D → Option D} {m : SA} : eCall f m (s :: e) = callB f (m (s :: e)) := by unfold eCall callB; cases m (s :: e) with | none => rfl | some p => obtain ⟨a, e2⟩ := p; show (f a).map _ = callC (f a) e2; cases f a <;> rfl
theorem call_s {e : En} {f : List D → Option D} {ds : List D} : callB f (some (ds, e)) = callC (f ds) e := noRfl rfl
theorem callC_s {e : En} {c : D} : callC (some c) e = some (c, e) := noRfl rfl
theorem e_FCall {s : Sl} {e : En} {f : List D → Option (List D)} {m : SA} : fCall f m (s :: e) = fcalB f (m (s :: e)) := by unfold fCall fcalB; cases m (s :: e) with | none => rfl | some p => obtain ⟨a, e2⟩ := p; show (f a).map _ = fcalC (f a) e2; cases f a <;> rfl
theorem fcal_s {e : En} {f : List D → Option (List D)} {ds : List D} : fcalB f (some (ds, e)) = fcalC (f ds) e := noRfl rfl
theorem fcalC_s {e : En} {c : List D} : fcalC (some c) e = some (c, e) := noRfl rfl
theorem e_Meth {s : Sl} {e : En} {f : D → List D → Option D} {mo : SE} {m : SA} : eMeth f mo m (s :: e) = mthB f (mo (s :: e)) m := by unfold eMeth mthB; cases mo (s :: e) with | none => rfl | some p => obtain ⟨a, e2⟩ := p; show (m e2).bind _ = mthC f a (m e2); (cases m e2 with | none => rfl | some r => obtain ⟨ds, e3⟩ := r; show (f a ds).map _ = callC (f a ds) e3; cases f a ds <;> rfl)
theorem mth_s {e : En} {f : D → List D → Option D} {a : D} {m : SA} : mthB f (some (a, e)) m = mthC f a (m e) := noRfl rfl
theorem mthC_s {e : En} {f : D → List D → Option D} {a : D} {ds : List D} : mthC f a (some (ds, e)) = callC (f a ds) e := noRfl rfl
theorem e_Sl {s : Sl} {e : En} {f : D → Option Int → Option Int → Option D} {mo : SE} {ml mh : SO} : eSl f mo ml mh (s :: e) = slB f (mo (s :: e)) ml mh := by
  unfold eSl slB
  cases mo (s :: e) with
  | none => rfl
  | some p =>
    obtain ⟨a, e2⟩ := p
    show (ml e2).bind _ = slC f a (ml e2) mh
    cases ml e2 with
    | none => rfl
    | some r =>
      obtain ⟨lo, e3⟩ := r
      show (mh e3).bind _ = slD f a lo (mh e3)
      cases mh e3 with
      | none => rfl
      | some t => obtain ⟨hi, e4⟩ := t; show (f a lo hi).map _ = callC (f a lo hi) e4; cases f a lo hi <;> rfl
theorem sl_s {e : En} {f : D → Option Int → Option Int → Option D} {a : D} {ml mh : SO} : slB f (some (a, e)) ml mh = slC f a (ml e) mh := noRfl rfl
theorem slC_s {e : En} {f : D → Option Int → Option Int → Option D} {a : D} {lo : Option Int} {mh : SO} : slC f a (some (lo, e)) mh = slD f a lo (mh e) := noRfl rfl
theorem slD_s {e : En} {f : D → Option Int → Option Int → Option D} {a : D} {lo hi : Option Int} : slD f a lo (some (hi, e)) = callC (f a lo hi) e := noRfl rfl
theorem e_oN {s : Sl} {e : En} : oNone (s :: e) = some (none, s :: e) := noRfl rfl
theorem e_oS {s : Sl} {e : En} {m : SE} : oSome m (s :: e) = oB (m (s :: e)) := by
  unfold oSome oB
  cases m (s :: e) with
  | none => rfl
  | some p =>
    obtain ⟨a, e2⟩ := p
    cases a <;> rfl
theorem o_s {e : En} {i : Int} : oB (some (.int i, e)) = some (some i, e) := noRfl rfl
theorem e_Ixo {s : Sl} {e : En} {m : SE} {i : Nat} : eIxo i m (s :: e) = ixoB (lstAt (s :: e) i) (m (s :: e)) i := by
  unfold eIxo ixoB
  cases lstAt (s :: e) i with
  | none => rfl
  | some ds0 =>
    show (m (s :: e)).bind _ = _
    cases m (s :: e) with
    | none => rfl
    | some p =>
      obtain ⟨a, e2⟩ := p
      cases a with
      | int k =>
        show (lstAt e2 i).bind _ = ixoA (lstAt e2 i) k e2
        cases lstAt e2 i with
        | none => rfl
        | some ds => show (atI ds k).map _ = ixoC (atI ds k) e2; cases atI ds k <;> rfl
      | _ =>
        show (lstAt e2 i).bind _ = none
        cases lstAt e2 i <;> rfl
theorem ixo_s {e : En} {d0 : List D} {k : Int} {i : Nat} : ixoB (some d0) (some (.int k, e)) i = ixoA (lstAt e i) k e := noRfl rfl
theorem ixoA_s {e : En} {ds : List D} {k : Int} : ixoA (some ds) k e = ixoC (atI ds k) e := noRfl rfl
theorem ixoC_s {e : En} {c : D} : ixoC (some c) e = some (c, e) := noRfl rfl
theorem e_Leno {s : Sl} {e : En} {i : Nat} : eLeno i (s :: e) = lenB (lstAt (s :: e) i) (s :: e) := by unfold eLeno lenB; cases lstAt (s :: e) i <;> rfl
theorem len_s {e : En} {ds : List D} : lenB (some ds) e = some (.int ds.length, e) := noRfl rfl
theorem e_CallH {s : Sl} {e : En} {m : List D → List D → Option (D × List D)} {ma : SA} {i : Nat} : eCallH i m ma (s :: e) = hcA (mutL (s :: e) i) (ma (s :: e)) i m := by
  unfold eCallH hcA
  cases mutL (s :: e) i with
  | none => rfl
  | some h0 =>
    show (ma (s :: e)).bind _ = _
    cases ma (s :: e) with
    | none => rfl
    | some p =>
      obtain ⟨ds, e2⟩ := p
      show (mutL e2 i).bind _ = hcB (mutL e2 i) ds e2 i m
      cases mutL e2 i with
      | none => rfl
      | some hs =>
        show (m hs ds).bind _ = hcC (m hs ds) e2 i
        cases m hs ds with
        | none => rfl
        | some r => obtain ⟨c, hs2⟩ := r; show (putL e2 i hs2).map _ = hcD c (putL e2 i hs2); cases putL e2 i hs2 <;> rfl
theorem hcA_s {e : En} {h0 ds : List D} {i : Nat} {m : List D → List D → Option (D × List D)} : hcA (some h0) (some (ds, e)) i m = hcB (mutL e i) ds e i m := noRfl rfl
theorem hcB_s {e : En} {hs ds : List D} {i : Nat} {m : List D → List D → Option (D × List D)} : hcB (some hs) ds e i m = hcC (m hs ds) e i := noRfl rfl
theorem hcC_s {e : En} {c : D} {hs : List D} {i : Nat} : hcC (some (c, hs)) e i = hcD c (putL e i hs) := noRfl rfl
theorem hcD_s {e : En} {c : D} : hcD c (some e) = some (c, e) := noRfl rfl
theorem e_Isi {s : Sl} {e : En} {T : String} {m : SE} : eIsi T m (s :: e) = isiB T (m (s :: e)) := by unfold eIsi isiB; cases m (s :: e) with | none => rfl | some p => obtain ⟨a, e2⟩ := p; show (kitB (clsD a) T).map _ = isiC (kitB (clsD a) T) e2; cases kitB (clsD a) T <;> rfl
theorem isi_e {e : En} {T : String} {d : D} : isiB T (some (d, e)) = isiC (kitB (clsD d) T) e := noRfl rfl
theorem isi_int_int {e : En} {i : Int} : isiB "int" (some (.int i, e)) = some (.bool true, e) := by rw [isi_e]; show isiC (kitB "int" "int") e = _; rw [kit_int_int]; rfl
theorem isi_int_bool {e : En} {i : Int} : isiB "bool" (some (.int i, e)) = some (.bool false, e) := by rw [isi_e]; show isiC (kitB "int" "bool") e = _; rw [kit_int_bool]; rfl
theorem isi_int_str {e : En} {i : Int} : isiB "str" (some (.int i, e)) = some (.bool false, e) := by rw [isi_e]; show isiC (kitB "int" "str") e = _; rw [kit_int_str]; rfl
theorem isi_int_list {e : En} {i : Int} : isiB "list" (some (.int i, e)) = some (.bool false, e) := by rw [isi_e]; show isiC (kitB "int" "list") e = _; rw [kit_int_list]; rfl
theorem isi_int_tuple {e : En} {i : Int} : isiB "tuple" (some (.int i, e)) = some (.bool false, e) := by rw [isi_e]; show isiC (kitB "int" "tuple") e = _; rw [kit_int_tuple]; rfl
theorem isi_bool_int {e : En} {i : Bool} : isiB "int" (some (.bool i, e)) = some (.bool true, e) := by rw [isi_e]; show isiC (kitB "bool" "int") e = _; rw [kit_bool_int]; rfl
theorem isi_bool_bool {e : En} {i : Bool} : isiB "bool" (some (.bool i, e)) = some (.bool true, e) := by rw [isi_e]; show isiC (kitB "bool" "bool") e = _; rw [kit_bool_bool]; rfl
theorem isi_bool_str {e : En} {i : Bool} : isiB "str" (some (.bool i, e)) = some (.bool false, e) := by rw [isi_e]; show isiC (kitB "bool" "str") e = _; rw [kit_bool_str]; rfl
theorem isi_bool_list {e : En} {i : Bool} : isiB "list" (some (.bool i, e)) = some (.bool false, e) := by rw [isi_e]; show isiC (kitB "bool" "list") e = _; rw [kit_bool_list]; rfl
theorem isi_bool_tuple {e : En} {i : Bool} : isiB "tuple" (some (.bool i, e)) = some (.bool false, e) := by rw [isi_e]; show isiC (kitB "bool" "tuple") e = _; rw [kit_bool_tuple]; rfl
theorem isi_str_int {e : En} {i : Str} : isiB "int" (some (.str i, e)) = some (.bool false, e) := by rw [isi_e]; show isiC (kitB "str" "int") e = _; rw [kit_str_int]; rfl
theorem isi_str_bool {e : En} {i : Str} : isiB "bool" (some (.str i, e)) = some (.bool false, e) := by rw [isi_e]; show isiC (kitB "str" "bool") e = _; rw [kit_str_bool]; rfl
theorem isi_str_str {e : En} {i : Str} : isiB "str" (some (.str i, e)) = some (.bool true, e) := by rw [isi_e]; show isiC (kitB "str" "str") e = _; rw [kit_str_str]; rfl
theorem isi_str_list {e : En} {i : Str} : isiB "list" (some (.str i, e)) = some (.bool false, e) := by rw [isi_e]; show isiC (kitB "str" "list") e = _; rw [kit_str_list]; rfl
theorem isi_str_tuple {e : En} {i : Str} : isiB "tuple" (some (.str i, e)) = some (.bool false, e) := by rw [isi_e]; show isiC (kitB "str" "tuple") e = _; rw [kit_str_tuple]; rfl
theorem isi_list_int {e : En} {i : List D} : isiB "int" (some (.list i, e)) = some (.bool false, e) := by rw [isi_e]; show isiC (kitB "list" "int") e = _; rw [kit_list_int]; rfl
theorem isi_list_bool {e : En} {i : List D} : isiB "bool" (some (.list i, e)) = some (.bool false, e) := by rw [isi_e]; show isiC (kitB "list" "bool") e = _; rw [kit_list_bool]; rfl
theorem isi_list_str {e : En} {i : List D} : isiB "str" (some (.list i, e)) = some (.bool false, e) := by rw [isi_e]; show isiC (kitB "list" "str") e = _; rw [kit_list_str]; rfl
theorem isi_list_list {e : En} {i : List D} : isiB "list" (some (.list i, e)) = some (.bool true, e) := by rw [isi_e]; show isiC (kitB "list" "list") e = _; rw [kit_list_list]; rfl
theorem isi_list_tuple {e : En} {i : List D} : isiB "tuple" (some (.list i, e)) = some (.bool false, e) := by rw [isi_e]; show isiC (kitB "list" "tuple") e = _; rw [kit_list_tuple]; rfl
theorem isi_tuple_int {e : En} {i : List D} : isiB "int" (some (.tuple i, e)) = some (.bool false, e) := by rw [isi_e]; show isiC (kitB "tuple" "int") e = _; rw [kit_tuple_int]; rfl
theorem isi_tuple_bool {e : En} {i : List D} : isiB "bool" (some (.tuple i, e)) = some (.bool false, e) := by rw [isi_e]; show isiC (kitB "tuple" "bool") e = _; rw [kit_tuple_bool]; rfl
theorem isi_tuple_str {e : En} {i : List D} : isiB "str" (some (.tuple i, e)) = some (.bool false, e) := by rw [isi_e]; show isiC (kitB "tuple" "str") e = _; rw [kit_tuple_str]; rfl
theorem isi_tuple_list {e : En} {i : List D} : isiB "list" (some (.tuple i, e)) = some (.bool false, e) := by rw [isi_e]; show isiC (kitB "tuple" "list") e = _; rw [kit_tuple_list]; rfl
theorem isi_tuple_tuple {e : En} {i : List D} : isiB "tuple" (some (.tuple i, e)) = some (.bool true, e) := by rw [isi_e]; show isiC (kitB "tuple" "tuple") e = _; rw [kit_tuple_tuple]; rfl
theorem isi_none_int {e : En}  : isiB "int" (some (.none, e)) = some (.bool false, e) := by rw [isi_e]; show isiC (kitB "NoneType" "int") e = _; rw [kit_none_int]; rfl
theorem isi_none_bool {e : En}  : isiB "bool" (some (.none, e)) = some (.bool false, e) := by rw [isi_e]; show isiC (kitB "NoneType" "bool") e = _; rw [kit_none_bool]; rfl
theorem isi_none_str {e : En}  : isiB "str" (some (.none, e)) = some (.bool false, e) := by rw [isi_e]; show isiC (kitB "NoneType" "str") e = _; rw [kit_none_str]; rfl
theorem isi_none_list {e : En}  : isiB "list" (some (.none, e)) = some (.bool false, e) := by rw [isi_e]; show isiC (kitB "NoneType" "list") e = _; rw [kit_none_list]; rfl
theorem isi_none_tuple {e : En}  : isiB "tuple" (some (.none, e)) = some (.bool false, e) := by rw [isi_e]; show isiC (kitB "NoneType" "tuple") e = _; rw [kit_none_tuple]; rfl
theorem e_Comp {s : Sl} {e : En} {mi : SF} {g : D → En → Option En} {t : ST} {me : SE} {vs : List Nat} : fComp mi g t me vs (s :: e) = cmpB (mi (s :: e)) g t me vs := by unfold fComp cmpB; cases mi (s :: e) with | none => rfl | some p => obtain ⟨ds, e2⟩ := p; show (compL g t me vs ds (wipeE e2 vs)).bind _ = cmpE (compL g t me vs ds (wipeE e2 vs)) e2 vs; cases compL g t me vs ds (wipeE e2 vs) <;> rfl
theorem cmp_s {e : En} {ds : List D} {g : D → En → Option En} {t : ST} {me : SE} {vs : List Nat} : cmpB (some (ds, e)) g t me vs = cmpE (compL g t me vs ds (wipeE e vs)) e vs := noRfl rfl
theorem cmpE_s {e e2 : En} {rs : List D} {vs : List Nat} : cmpE (some (rs, e2)) e vs = if noExt e vs = true ∧ rs.length ≤ sizeLine then some (rs, backE e e2 vs) else none := noRfl rfl
theorem wp_n {e : En} : wipeE e [] = e := noRfl rfl
theorem wp_c {e : En} {v : Nat} {vs : List Nat} : wipeE e (v :: vs) = (wipeE e vs).set v .un := noRfl rfl
theorem bk_n {e0 e : En} : backE e0 e [] = e := noRfl rfl
theorem bk_c {e0 e : En} {v : Nat} {vs : List Nat} : backE e0 e (v :: vs) = (backE e0 e vs).set v (bkS e0[v]?) := by rw [backE]; congr
theorem bks_v {d : D} : bkS (some (.val d)) = .val d := noRfl rfl
theorem bks_u : bkS (some .un) = .un := noRfl rfl
theorem bks_o {d : List D} : bkS (some (.own d)) = .un := noRfl rfl
theorem nx_n {e : En} : noExt e [] = true := noRfl rfl
theorem nx_c {e : En} {v : Nat} {vs : List Nat} : noExt e (v :: vs) = (nx1 e[v]? && noExt e vs) := by unfold noExt nx1; rfl
theorem nx1_v {d : D} : nx1 (some (.val d)) = true := noRfl rfl
theorem nx1_u : nx1 (some .un) = true := noRfl rfl
theorem nx1_o {d : List D} : nx1 (some (.own d)) = true := noRfl rfl
theorem e_For {s : Sl} {e : En} {mi : SF} {g : D → En → Option En} {b : SS} : sFor mi g b (s :: e) = forB (mi (s :: e)) g b := by unfold sFor forB; cases mi (s :: e) <;> rfl
theorem for_s {e : En} {ds : List D} {g : D → En → Option En} {b : SS} : forB (some (ds, e)) g b = forL g b ds e := noRfl rfl
theorem e_iAny {s : Sl} {e : En} {m : SE} : iAny m (s :: e) = anyB (m (s :: e)) := by
  unfold iAny anyB
  cases m (s :: e) with
  | none => rfl
  | some p =>
    obtain ⟨a, e2⟩ := p
    cases a <;> rfl
theorem any_l {e : En} {ds : List D} : anyB (some (.list ds, e)) = some (ds, e) := noRfl rfl
theorem any_t {e : En} {ds : List D} : anyB (some (.tuple ds, e)) = some (ds, e) := noRfl rfl
theorem any_s {e : En} {z : Str} : anyB (some (.str z, e)) = some (chD z, e) := noRfl rfl
theorem e_iR1 {s : Sl} {e : En} {m : SA} : iRg1 m (s :: e) = rg1B (m (s :: e)) := by unfold iRg1 rg1B; cases m (s :: e) with | none => rfl | some p => (obtain ⟨ds, e2⟩ := p; simp only [Option.bind_some]; split <;> simp_all)
theorem e_iR2 {s : Sl} {e : En} {m : SA} : iRg2 m (s :: e) = rg2B (m (s :: e)) := by unfold iRg2 rg2B; cases m (s :: e) with | none => rfl | some p => (obtain ⟨ds, e2⟩ := p; simp only [Option.bind_some]; split <;> simp_all)
theorem e_iZp {s : Sl} {e : En} {m : SA} : iZp m (s :: e) = zpB (m (s :: e)) := by unfold iZp zpB; cases m (s :: e) with | none => rfl | some p => (obtain ⟨ds, e2⟩ := p; simp only [Option.bind_some]; split <;> simp_all)
theorem e_iEn {s : Sl} {e : En} {m : SA} : iEnA m (s :: e) = enB (m (s :: e)) := by unfold iEnA enB; cases m (s :: e) with | none => rfl | some p => (obtain ⟨ds, e2⟩ := p; simp only [Option.bind_some]; split <;> simp_all)
theorem rg1_s {e : En} {j : Int} : rg1B (some ([.int j], e)) = if small62 j = true then some (rgD 0 j.toNat, e) else none := noRfl rfl
theorem rg2_s {e : En} {i j : Int} : rg2B (some ([.int i, .int j], e)) = if (small62 i && small62 j) = true then some (rgD i (j - i).toNat, e) else none := noRfl rfl
theorem zp_s {e : En} {a b : List D} : zpB (some ([.list a, .list b], e)) = some (prs a b, e) := noRfl rfl
theorem en_l {e : En} {a : List D} : enB (some ([.list a], e)) = some (enD a, e) := noRfl rfl
theorem en_s {e : En} {a : Str} : enB (some ([.str a], e)) = some (enD (chD a), e) := noRfl rfl
theorem e_App {s : Sl} {e : En} {m : SE} {i : Nat} : sApp i m (s :: e) = apA (mutL (s :: e) i) (m (s :: e)) i := by
  unfold sApp apA
  cases mutL (s :: e) i with
  | none => rfl
  | some d0 =>
    show (m (s :: e)).bind _ = _
    cases m (s :: e) with
    | none => rfl
    | some p =>
      obtain ⟨d, e2⟩ := p
      show (mutL e2 i).bind _ = apB (mutL e2 i) d e2 i
      cases mutL e2 i with
      | none => rfl
      | some ds =>
        show (if ds.length < sizeLine then (putL e2 i (ds ++ [d])).map _ else none) = if ds.length < sizeLine then nxB (putL e2 i (ds ++ [d])) else none
        split
        · cases putL e2 i (ds ++ [d]) <;> rfl
        · rfl
theorem apA_s {e : En} {d0 : List D} {d : D} {i : Nat} : apA (some d0) (some (d, e)) i = apB (mutL e i) d e i := noRfl rfl
theorem apB_s {e : En} {ds : List D} {d : D} {i : Nat} : apB (some ds) d e i = if ds.length < sizeLine then nxB (putL e i (ds ++ [d])) else none := noRfl rfl
theorem e_Put {s : Sl} {e : En} {mk m : SE} {i : Nat} : sPut i mk m (s :: e) = ptA (m (s :: e)) i mk := by
  unfold sPut ptA
  cases m (s :: e) with
  | none => rfl
  | some p =>
    obtain ⟨d, e2⟩ := p
    show (mutL e2 i).bind _ = ptB (mutL e2 i) (mk e2) i d
    cases mutL e2 i with
    | none => rfl
    | some d0 =>
      show (mk e2).bind _ = ptB (some d0) (mk e2) i d
      cases mk e2 with
      | none => rfl
      | some q =>
        obtain ⟨k, e3⟩ := q
        cases k with
        | int k =>
          show (mutL e3 i).bind _ = ptC (mutL e3 i) k d e3 i
          cases mutL e3 i with
          | none => rfl
          | some ds =>
            show (ixN ds.length k).bind _ = ptD (ixN ds.length k) ds d e3 i
            cases ixN ds.length k with
            | none => rfl
            | some j => show (putL e3 i (ds.set j d)).map _ = nxB (putL e3 i (ds.set j d)); cases putL e3 i (ds.set j d) <;> rfl
        | _ =>
          show (mutL e3 i).bind _ = none
          cases mutL e3 i <;> rfl
theorem ptA_s {e : En} {d : D} {i : Nat} {mk : SE} : ptA (some (d, e)) i mk = ptB (mutL e i) (mk e) i d := noRfl rfl
theorem ptB_s {e : En} {d0 : List D} {k : Int} {i : Nat} {d : D} : ptB (some d0) (some (.int k, e)) i d = ptC (mutL e i) k d e i := noRfl rfl
theorem ptC_s {e : En} {ds : List D} {k : Int} {i : Nat} {d : D} : ptC (some ds) k d e i = ptD (ixN ds.length k) ds d e i := noRfl rfl
theorem ptD_s {e : En} {ds : List D} {j : Nat} {i : Nat} {d : D} : ptD (some j) ds d e i = nxB (putL e i (ds.set j d)) := noRfl rfl
theorem d_add {i j : Int} : dAdd (.int i) (.int j) = some (.int (i + j)) := noRfl rfl
theorem d_adds {a b : Str} : dAdd (.str a) (.str b) = if a.length + b.length ≤ sizeLine then some (.str (a ++ b)) else none := noRfl rfl
theorem d_addl {a b : List D} : dAdd (.list a) (.list b) = if a.length + b.length ≤ sizeLine then some (.list (a ++ b)) else none := noRfl rfl
theorem d_muls {z : Str} {n : Int} : dMul (.str z) (.int n) = if -(2 ^ 62) ≤ n ∧ n < 2 ^ 62 ∧ z.length * n.toNat ≤ sizeLine then some (.str (Txt.mul z n)) else none := noRfl rfl
theorem d_sub {i j : Int} : dSub (.int i) (.int j) = some (.int (i - j)) := noRfl rfl
theorem d_mul {i j : Int} : dMul (.int i) (.int j) = if MulOk i j then some (.int (i * j)) else none := noRfl rfl
theorem d_div {i j : Int} : dDiv (.int i) (.int j) = if DivOk j then some (.int (i / j)) else none := noRfl rfl
theorem d_mod {i j : Int} : dMod (.int i) (.int j) = if 0 < j then some (.int (i % j)) else none := noRfl rfl
theorem d_neg {i : Int} : dNeg (.int i) = some (.int (-i)) := noRfl rfl
theorem d_pow {i j : Int} : dPow (.int i) (.int j) = if 0 ≤ j ∧ j ≤ 1000 ∧ i.natAbs < 2 ^ 64 then some (.int (i ^ j.toNat)) else none := noRfl rfl
theorem d_lt {i j : Int} : dLt (.int i) (.int j) = some (.bool (decide (i < j))) := noRfl rfl
theorem d_lts {a b : Str} : dLt (.str a) (.str b) = some (.bool (decide (a.cps.toList < b.cps.toList))) := noRfl rfl
theorem d_le {i j : Int} : dLe (.int i) (.int j) = some (.bool (decide (i ≤ j))) := noRfl rfl
theorem d_gt {i j : Int} : dGt (.int i) (.int j) = some (.bool (decide (j < i))) := noRfl rfl
theorem d_ge {i j : Int} : dGe (.int i) (.int j) = some (.bool (decide (j ≤ i))) := noRfl rfl
theorem d_eqi {i j : Int} : dEq (.int i) (.int j) = some (.bool (decide (i = j))) := noRfl rfl
theorem d_eqs {i j : Str} : dEq (.str i) (.str j) = some (.bool (decide (i = j))) := noRfl rfl
theorem d_eqb {i j : Bool} : dEq (.bool i) (.bool j) = some (.bool (decide (i = j))) := noRfl rfl
theorem d_nei {i j : Int} : dNe (.int i) (.int j) = some (.bool (!decide (i = j))) := noRfl rfl
theorem d_nes {i j : Str} : dNe (.str i) (.str j) = some (.bool (!decide (i = j))) := noRfl rfl
theorem d_neb {i j : Bool} : dNe (.bool i) (.bool j) = some (.bool (!decide (i = j))) := noRfl rfl
theorem d_isn {a : D} : dIs a .none = some (.bool (isN a)) := noRfl rfl
theorem d_isnn {a : D} : dIsNot a .none = some (.bool (!isN a)) := noRfl rfl
theorem isN_n  : isN .none = true := noRfl rfl
theorem isN_i {i : Int} : isN (.int i) = false := noRfl rfl
theorem isN_b {i : Bool} : isN (.bool i) = false := noRfl rfl
theorem isN_s {i : Str} : isN (.str i) = false := noRfl rfl
theorem isN_l {i : List D} : isN (.list i) = false := noRfl rfl
theorem isN_t {i : List D} : isN (.tuple i) = false := noRfl rfl
theorem ix_t0 {b0 : D} {r : List D} : dIx (.tuple (b0 :: r)) (.int 0) = some b0 := by first | rfl | (show atI _ ((0 : Nat) : Int) = _; exact atI_nat rfl)
theorem at_0 {b0 : D} {r : List D} : atI (b0 :: r) (0 : Int) = some b0 := by first | rfl | (show atI _ ((0 : Nat) : Int) = _; exact atI_nat rfl)
theorem ix_t1 {b0 b1 : D} {r : List D} : dIx (.tuple (b0 :: b1 :: r)) (.int 1) = some b1 := by first | rfl | (show atI _ ((1 : Nat) : Int) = _; exact atI_nat rfl)
theorem at_1 {b0 b1 : D} {r : List D} : atI (b0 :: b1 :: r) (1 : Int) = some b1 := by first | rfl | (show atI _ ((1 : Nat) : Int) = _; exact atI_nat rfl)
theorem ix_t2 {b0 b1 b2 : D} {r : List D} : dIx (.tuple (b0 :: b1 :: b2 :: r)) (.int 2) = some b2 := by first | rfl | (show atI _ ((2 : Nat) : Int) = _; exact atI_nat rfl)
theorem at_2 {b0 b1 b2 : D} {r : List D} : atI (b0 :: b1 :: b2 :: r) (2 : Int) = some b2 := by first | rfl | (show atI _ ((2 : Nat) : Int) = _; exact atI_nat rfl)
theorem ix_t3 {b0 b1 b2 b3 : D} {r : List D} : dIx (.tuple (b0 :: b1 :: b2 :: b3 :: r)) (.int 3) = some b3 := by first | rfl | (show atI _ ((3 : Nat) : Int) = _; exact atI_nat rfl)
theorem at_3 {b0 b1 b2 b3 : D} {r : List D} : atI (b0 :: b1 :: b2 :: b3 :: r) (3 : Int) = some b3 := by first | rfl | (show atI _ ((3 : Nat) : Int) = _; exact atI_nat rfl)
theorem ix_t4 {b0 b1 b2 b3 b4 : D} {r : List D} : dIx (.tuple (b0 :: b1 :: b2 :: b3 :: b4 :: r)) (.int 4) = some b4 := by first | rfl | (show atI _ ((4 : Nat) : Int) = _; exact atI_nat rfl)
theorem at_4 {b0 b1 b2 b3 b4 : D} {r : List D} : atI (b0 :: b1 :: b2 :: b3 :: b4 :: r) (4 : Int) = some b4 := by first | rfl | (show atI _ ((4 : Nat) : Int) = _; exact atI_nat rfl)
theorem ix_l {ds : List D} {k : Int} : dIx (.list ds) (.int k) = atI ds k := noRfl rfl
theorem ix_t {ds : List D} {k : Int} : dIx (.tuple ds) (.int k) = atI ds k := noRfl rfl
theorem c_lenl {ds : List D} : dLen [.list ds] = some (.int ds.length) := noRfl rfl
theorem c_lent {ds : List D} : dLen [.tuple ds] = some (.int ds.length) := noRfl rfl
theorem c_lens {z : Str} : dLen [.str z] = if z.length ≤ sizeLine then some (.int z.length) else none := noRfl rfl
theorem c_abs {i : Int} : dAbs [.int i] = some (.int (if i < 0 then -i else i)) := noRfl rfl
theorem c_int {i : Int} : dInt [.int i] = some (.int i) := noRfl rfl
theorem c_tupl {ds : List D} : dTuple [.list ds] = some (.tuple ds) := noRfl rfl
theorem c_tupt {ds : List D} : dTuple [.tuple ds] = some (.tuple ds) := noRfl rfl
theorem c_lst {ds : List D} : fList [.list ds] = some ds := noRfl rfl
theorem c_lstt {ds : List D} : fList [.tuple ds] = some ds := noRfl rfl
theorem c_max2 {i j : Int} : dMax [.int i, .int j] = some (.int (if j > i then j else i)) := noRfl rfl
theorem c_min2 {i j : Int} : dMin [.int i, .int j] = some (.int (if j < i then j else i)) := noRfl rfl
theorem s_list {ds : List D} {lo hi : Option Int} : dSl (.list ds) lo hi = some (.list (cutD ds lo hi)) := noRfl rfl
theorem s_tup {ds : List D} {lo hi : Option Int} : dSl (.tuple ds) lo hi = some (.tuple (cutD ds lo hi)) := noRfl rfl
theorem s_str {z : Str} {lo hi : Option Int} : dSl (.str z) lo hi = if z.length ≤ sizeLine then some (.str (cutS z lo hi)) else none := noRfl rfl
theorem e_ParM {s : Sl} {e : En} {m : SM} {is : List Nat} : sParM is m (s :: e) = pmB is (m (s :: e)) := by unfold sParM pmB; cases m (s :: e) with | none => rfl | some p => obtain ⟨ms, e2⟩ := p; show (setMs is ms e2).map _ = nxB (setMs is ms e2); cases setMs is ms e2 <;> rfl
theorem pm_s {e : En} {ms : List MV} {is : List Nat} : pmB is (some (ms, e)) = nxB (setMs is ms e) := noRfl rfl
theorem e_mN {s : Sl} {e : En} : mNil (s :: e) = some ([], s :: e) := noRfl rfl
theorem e_mD {s : Sl} {e : En} {m : SE} {r : SM} : mCD m r (s :: e) = mdB (m (s :: e)) r := by unfold mCD mdB; cases m (s :: e) with | none => rfl | some p => obtain ⟨d, e2⟩ := p; show (r e2).map _ = mdC d (r e2); cases r e2 <;> rfl
theorem md_s {e : En} {d : D} {r : SM} : mdB (some (d, e)) r = mdC d (r e) := noRfl rfl
theorem mdC_s {e : En} {d : D} {ms : List MV} : mdC d (some (ms, e)) = some (.d d :: ms, e) := noRfl rfl
theorem e_mL {s : Sl} {e : En} {m : SF} {r : SM} : mCL m r (s :: e) = mlB (m (s :: e)) r := by unfold mCL mlB; cases m (s :: e) with | none => rfl | some p => obtain ⟨d, e2⟩ := p; show (r e2).map _ = mlC d (r e2); cases r e2 <;> rfl
theorem ml_s {e : En} {d : List D} {r : SM} : mlB (some (d, e)) r = mlC d (r e) := noRfl rfl
theorem mlC_s {e : En} {d : List D} {ms : List MV} : mlC d (some (ms, e)) = some (.l d :: ms, e) := noRfl rfl
theorem sms_n {e : En} : setMs [] [] e = some e := noRfl rfl
theorem sms_d {e : En} {i : Nat} {is : List Nat} {d : D} {ms : List MV} : setMs (i :: is) (.d d :: ms) e = smB (setv e i d) is ms := by show (setv e i d).bind (setMs is ms) = _; cases setv e i d <;> rfl
theorem sms_l {e : En} {i : Nat} {is : List Nat} {d : List D} {ms : List MV} : setMs (i :: is) (.l d :: ms) e = smB (seto e i d) is ms := by show (seto e i d).bind (setMs is ms) = _; cases seto e i d <;> rfl
theorem sm_s {e : En} {is : List Nat} {ms : List MV} : smB (some e) is ms = setMs is ms e := noRfl rfl
theorem e_Rev {s : Sl} {e : En} {m : SE} : eRev m (s :: e) = rvB (m (s :: e)) := by unfold eRev rvB; cases m (s :: e) with | none => rfl | some p => (obtain ⟨d, e2⟩ := p; simp only [Option.bind_some]; split <;> simp_all)
theorem rv_s {e : En} {z : Str} : rvB (some (.str z, e)) = if z.length ≤ sizeLine then some (.str (revS z), e) else none := noRfl rfl
end PL

set_option maxHeartbeats 4000000
/-! The pure layer, part t: tools for meanings: comprehensions, loops, sizes, texts of signs. -/
namespace PL
open PySem PySem.Spec PyProof.Rows L2

/-! ### comprehensions and loops -/
theorem comp_filter {g : D → En → Option En} {t : ST} {me : SE} {vs : List Nat} {e0 : En} {f : D → D} {c : D → Bool} : ∀ (ds : List D), (∀ d ∈ ds, ∃ e1, g d e0 = some e1 ∧ t e1 = some (c d, e1) ∧ (c d = true → me e1 = some (f d, e1)) ∧ wipeE e1 vs = e0) →
    compL g t me vs ds e0 = some ((ds.filter c).map f, e0)
  | [], _ => rfl
  | d :: ds, h => by
    obtain ⟨e1, h1, h2, h3, h4⟩ := h d List.mem_cons_self
    have ih := comp_filter (f := f) (c := c) ds fun x hx => h x (List.mem_cons_of_mem _ hx)
    unfold compL
    rw [h1, Option.bind_some, h2, Option.bind_some]
    cases hc : c d with
    | true =>
      rw [if_pos rfl, h3 hc, Option.bind_some]
      dsimp only
      rw [h4, ih, Option.map_some, List.filter_cons_of_pos hc, List.map_cons]
    | false =>
      rw [if_neg Bool.false_ne_true]
      dsimp only
      rw [h4, ih, List.filter_cons_of_neg (by rw [hc]; exact Bool.false_ne_true)]
theorem comp_map {g : D → En → Option En} {t : ST} {me : SE} {vs : List Nat} {e0 : En} {f : D → D} (ds : List D) (h : ∀ d ∈ ds, ∃ e1, g d e0 = some e1 ∧ t e1 = some (true, e1) ∧ me e1 = some (f d, e1) ∧ wipeE e1 vs = e0) :
    compL g t me vs ds e0 = some (ds.map f, e0) := by
  have := comp_filter (g := g) (t := t) (me := me) (vs := vs) (e0 := e0) (f := f) (c := fun _ => true) ds fun d hd => by
    obtain ⟨e1, h1, h2, h3, h4⟩ := h d hd
    exact ⟨e1, h1, h2, fun _ => h3, h4⟩
  rw [this, List.filter_eq_self.mpr fun _ _ => rfl]
theorem forL_ind {g : D → En → Option En} {b : SS} (I : List D → En → Prop) : ∀ (post pre : List D) (e : En), (∀ (pre : List D) (d : D) (post' : List D) (e : En), d ∈ post → I pre e → ∃ e1 e2, g d e = some e1 ∧ (b e1 = some (.nx e2) ∨ b e1 = some (.ct e2)) ∧ I (pre ++ [d]) e2) → I pre e → ∃ e', forL g b post e = some (.nx e') ∧ I (pre ++ post) e'
  | [], pre, e, _, h0 => ⟨e, rfl, by rw [List.append_nil]; exact h0⟩
  | d :: post, pre, e, h, h0 => by
    obtain ⟨e1, e2, h1, h2, h3⟩ := h pre d post e List.mem_cons_self h0
    obtain ⟨e', q1, q2⟩ := forL_ind I post (pre ++ [d]) e2 (fun pre d post' e hd hI => h pre d post' e (List.mem_cons_of_mem _ hd) hI) h3
    refine ⟨e', ?_, by rw [List.append_assoc] at q2; exact q2⟩
    unfold forL
    rw [h1, Option.bind_some]
    rcases h2 with h2 | h2
    · rw [h2, Option.bind_some]; exact q1
    · rw [h2, Option.bind_some]; exact q1
theorem whL_ind {t : ST} {b : SS} (I J : En → Prop) (μ : En → Nat) (h : ∀ e, I e → (∃ e1, t e = some (false, e1) ∧ J e1) ∨ (∃ e1 e2, t e = some (true, e1) ∧ b e1 = some (.nx e2) ∧ I e2 ∧ μ e2 < μ e)) : ∀ (n : Nat) (e : En), I e → μ e < n → ∃ e', whL t b n e = some (.nx e') ∧ J e'
  | 0, e, _, hm => absurd hm (Nat.not_lt_zero _)
  | n + 1, e, hI, hm => by
    rcases h e hI with ⟨e1, h1, h2⟩ | ⟨e1, e2, h1, h2, h3, h4⟩
    · refine ⟨e1, ?_, h2⟩
      unfold whL
      rw [h1, Option.bind_some, if_neg Bool.false_ne_true]
    · obtain ⟨e', q1, q2⟩ := whL_ind I J μ h n e2 h3 (by omega)
      refine ⟨e', ?_, q2⟩
      unfold whL
      rw [h1, Option.bind_some, if_pos rfl, h2, Option.bind_some]
      exact q1
theorem while_ind {t : ST} {b : SS} {e : En} (I J : En → Prop) (μ : En → Nat) (h : ∀ e, I e → (∃ e1, t e = some (false, e1) ∧ J e1) ∨ (∃ e1 e2, t e = some (true, e1) ∧ b e1 = some (.nx e2) ∧ I e2 ∧ μ e2 < μ e)) (hI : I e) (hm : μ e < fuel) : ∃ e', sWhile t b e = some (.nx e') ∧ J e' :=
  whL_ind I J μ h fuel e hI hm

/-! ### sizes -/
def Bk (n : Nat) (x : Int) : Prop := x.natAbs < 2 ^ n
theorem Bk.mono {a b : Nat} {x : Int} (h : Bk a x) (l : a ≤ b) : Bk b x := Nat.lt_of_lt_of_le h (Nat.pow_le_pow_right (by decide) l)
theorem Bk.mul {a b : Nat} {x y : Int} (h : Bk a x) (k : Bk b y) : Bk (a + b) (x * y) := by
  unfold Bk
  rw [Int.natAbs_mul, Nat.pow_add]
  exact Nat.mul_lt_mul'' h k
theorem Bk.add {a b : Nat} {x y : Int} (h : Bk a x) (k : Bk b y) : Bk (max a b + 1) (x + y) := by
  have h1 := h.mono (Nat.le_max_left a b)
  have h2 := k.mono (Nat.le_max_right a b)
  unfold Bk at h1 h2 ⊢
  rw [Nat.pow_succ]
  have := Int.natAbs_add_le x y
  omega
theorem Bk.neg {a : Nat} {x : Int} (h : Bk a x) : Bk a (-x) := by
  unfold Bk at h ⊢
  rw [Int.natAbs_neg]; exact h
theorem Bk.sub {a b : Nat} {x y : Int} (h : Bk a x) (k : Bk b y) : Bk (max a b + 1) (x - y) := by
  rw [Int.sub_eq_add_neg]
  exact h.add k.neg
theorem Bk.div {a : Nat} {x y : Int} (h : Bk a x) (hy : 0 < y) : Bk a (x / y) := by
  unfold Bk at h ⊢
  refine Nat.lt_of_le_of_lt ?_ h
  by_cases hx : 0 ≤ x
  · have h1 : 0 ≤ x / y := Int.ediv_nonneg hx (Int.le_of_lt hy)
    have h2 : x / y ≤ x := Int.ediv_le_self y hx
    omega
  · have h1 : x ≤ x / y := by
      rw [Int.le_ediv_iff_mul_le hy]
      have : x * y ≤ x * 1 := Int.mul_le_mul_of_nonpos_left (by omega) (by omega)
      omega
    have h2 : x / y ≤ 0 := by
      have := Int.ediv_lt_of_lt_mul hy (show x < 1 * y by omega)
      omega
    omega
theorem Bk.of {n : Nat} {x : Int} (h1 : -(2 ^ n : Nat) < x) (h2 : x < (2 ^ n : Nat)) : Bk n x := by
  unfold Bk
  omega
theorem MulOk.of {a b : Nat} {x y : Int} (h : Bk a x) (k : Bk b y) (ha : a ≤ 9000) (hb : b ≤ 9000) : MulOk x y := .inr (.inr ⟨h.mono ha, k.mono hb⟩)
theorem DivOk.of {b : Nat} {y : Int} (h : 0 < y) (k : Bk b y) (hb : b ≤ 9000) : DivOk y := ⟨h, k.mono hb⟩
theorem MulOk.l {x y : Int} (h1 : -(2 ^ 64) < x) (h2 : x < 2 ^ 64) : MulOk x y := .inl ⟨h1, h2⟩
theorem MulOk.r {x y : Int} (h1 : -(2 ^ 64) < y) (h2 : y < 2 ^ 64) : MulOk x y := .inr (.inl ⟨h1, h2⟩)
theorem DivOk.s {y : Int} (h : 0 < y) (h2 : y < 2 ^ 64) : DivOk y := DivOk.of (b := 64) h (.of (by omega) (by omega)) (by decide)

/-! ### lists of data -/
theorem intsOf_map : ∀ l : List Int, intsOf (l.map PyData.int) = some l
  | [] => rfl
  | x :: r => by show (intsOf (r.map PyData.int)).map _ = _; rw [intsOf_map r]; rfl
theorem boolsOf_map : ∀ l : List Bool, boolsOf (l.map PyData.bool) = some l
  | [] => rfl
  | x :: r => by show (boolsOf (r.map PyData.bool)).map _ = _; rw [boolsOf_map r]; rfl
theorem strsOf_map : ∀ l : List Str, strsOf (l.map PyData.str) = some l
  | [] => rfl
  | x :: r => by show (strsOf (r.map PyData.str)).map _ = _; rw [strsOf_map r]; rfl
theorem atI_map {α : Type} (f : α → D) (l : List α) (i : Nat) (x : α) (h : l[i]? = some x) : atI (l.map f) (i : Int) = some (f x) := atI_nat (by rw [List.getElem?_map, h]; rfl)
theorem rgD0 (n : Nat) : rgD 0 n = (List.range n).map fun i => .int (i : Nat) := by
  unfold rgD
  apply List.map_congr_left
  intro i _
  rw [Int.zero_add]

/-! ### texts of signs -/
def sgn (b : Bool) : Str := if b then "1" else "0"
def cod (b : Bool) : Nat := if b then 49 else 48
/-- the text of a row -/
def rw_ (l : List Bool) : Str := ⟨(l.map cod).toArray⟩
theorem sgn_eq (b : Bool) : sgn b = ⟨#[cod b]⟩ := by cases b <;> decide +kernel
theorem rw_len (l : List Bool) : (rw_ l).length = l.length := by
  unfold rw_ Str.length
  simp
theorem chD_rw (l : List Bool) : chD (rw_ l) = l.map fun b => .str (sgn b) := by
  unfold chD rw_
  simp only [List.map_map]
  apply List.map_congr_left
  intro b _
  show PyData.str ⟨#[cod b]⟩ = _
  rw [sgn_eq]
theorem rw_inj {l m : List Bool} (h : rw_ l = rw_ m) : l = m := by
  unfold rw_ at h
  injection h with h
  have h2 : l.map cod = m.map cod := by
    have := congrArg Array.toList h
    simpa using this
  clear h
  induction l generalizing m with
  | nil => cases m with
    | nil => rfl
    | cons b r => cases h2
  | cons a q ih => cases m with
    | nil => cases h2
    | cons b r =>
      rw [List.map_cons, List.map_cons] at h2
      injection h2 with h3 h4
      have e : a = b := by cases a <;> cases b <;> first | rfl | (exfalso; revert h3; decide)
      rw [e, ih h4]
theorem rw_append (l m : List Bool) : rw_ l ++ rw_ m = rw_ (l ++ m) := by
  show Str.append _ _ = _
  unfold rw_ Str.append
  simp
theorem sgn_inj {a b : Bool} (h : sgn a = sgn b) : a = b := by
  rw [sgn_eq, sgn_eq] at h
  injection h with h
  cases a <;> cases b <;> first | rfl | (exfalso; revert h; decide)
theorem sgn_eq1 (b : Bool) : decide (sgn b = ("1" : Str)) = b := by cases b <;> decide +kernel
theorem join_rw (l : List Bool) : Txt.join ("" : Str) (l.map sgn) = rw_ l := by
  show Builtin.Str.glued _ _ = _
  unfold Builtin.Str.glued
  have he : ("" : Str).cps = #[] := by decide +kernel
  have key : ∀ (l : List Bool) (acc : Array Nat), (l.map sgn).foldl (fun acc (p : Str) => acc ++ ("" : Str).cps ++ p.cps) acc = acc ++ (l.map cod).toArray := by
    intro l
    induction l with
    | nil => intro acc; simp
    | cons b r ih =>
      intro acc
      rw [List.map_cons, List.foldl_cons, ih, sgn_eq, he]
      simp
  cases l with
  | nil =>
    unfold rw_
    simp [Str.empty]
  | cons b r =>
    rw [List.map_cons, List.drop_one, List.tail_cons, List.headD_cons, key, sgn_eq]
    unfold rw_
    simp
theorem cutS_rw (l : List Bool) (lo hi : Option Int) : cutS (rw_ l) lo hi = rw_ ((l.drop (HT.sIx l.length 0 lo)).take (HT.sIx l.length l.length hi - HT.sIx l.length 0 lo)) := by
  unfold cutS
  rw [rw_len]
  unfold rw_
  simp
end PL
namespace PL
open PySem PySem.Spec PyProof.Rows L2
def retO (r : Option Out) : Option D := match r with
  | some (.rt d _) => some d
  | some (.nx _) => some .none
  | _ => none
def rtHO (r : Option Out) : Option (D × List D) := match r with
  | some (.rt d (.ext hs :: _)) => some (d, hs)
  | some (.nx (.ext hs :: _)) => some (.none, hs)
  | _ => none
theorem retO_rt {d : D} {e : En} : retO (some (.rt d e)) = some d := rfl
theorem retO_nx {e : En} : retO (some (.nx e)) = some .none := rfl
theorem rtHO_rt {d : D} {hs : List D} {e : En} : rtHO (some (.rt d (.ext hs :: e))) = some (d, hs) := rfl
theorem rtHO_nx {hs : List D} {e : En} : rtHO (some (.nx (.ext hs :: e))) = some (.none, hs) := rfl
theorem mD_ev {n N : Nat} {b : SS} {ds : List D} {d : D} (hl : ds.length = n) (h : retO (b (startE N ds)) = some d) : mD n N b ds = some d := by
  unfold mD
  rw [if_pos hl]
  cases q : b (startE N ds) with
  | none => rw [q] at h; cases h
  | some o =>
    rw [q] at h
    cases o <;> first | exact h | cases h
theorem mH_ev {n N : Nat} {b : SS} {hs ds : List D} {d : D} {hs' : List D} (hl : ds.length + 1 = n) (h : rtHO (b (startH N hs ds)) = some (d, hs')) : mH n N b hs ds = some (d, hs') := by
  unfold mH
  rw [if_pos hl]
  cases q : b (startH N hs ds) with
  | none => rw [q] at h; cases h
  | some o =>
    rw [q] at h
    cases o with
    | rt d2 e =>
      cases e with
      | nil => cases h
      | cons s e => cases s <;> first | exact h | cases h
    | nx e =>
      cases e with
      | nil => cases h
      | cons s e => cases s <;> first | exact h | cases h
    | bk e => cases h
    | ct e => cases h
end PL
namespace PL
open PySem PySem.Spec PyProof.Rows L2
/-! ### Euclid's loop -/
theorem gcd_step (x y : Int) (hx : 0 ≤ x) (hy : 0 < y) : Int.gcd y (x % y) = Int.gcd x y := by
  obtain ⟨m, rfl⟩ := Int.eq_ofNat_of_zero_le hx
  obtain ⟨n, rfl⟩ := Int.eq_ofNat_of_zero_le (Int.le_of_lt hy)
  show Nat.gcd (Int.natAbs n) (Int.natAbs ((m : Int) % (n : Int))) = Nat.gcd (Int.natAbs m) (Int.natAbs n)
  rw [Int.natAbs_natCast, Int.natAbs_natCast, ← Int.natCast_emod, Int.natAbs_natCast, Nat.gcd_comm m n, Nat.gcd_comm n (m % n), ← Nat.gcd_rec]
theorem gcd_loop {t : ST} {b : SS} (ht : ∀ x y : Int, 0 ≤ x → 0 ≤ y → t [.val (.int x), .val (.int y)] = some (decide (0 < y), [.val (.int x), .val (.int y)]))
    (hb : ∀ x y : Int, 0 ≤ x → 0 < y → b [.val (.int x), .val (.int y)] = some (.nx [.val (.int y), .val (.int (x % y))])) (x y : Int) (hx : 0 ≤ x) (hy : 0 ≤ y) (hf : y.natAbs < fuel) :
    ∃ z, sWhile t b [.val (.int x), .val (.int y)] = some (.nx [.val (.int (Int.gcd x y)), .val (.int z)]) := by
  obtain ⟨e', h1, z, rfl⟩ := while_ind (t := t) (b := b) (e := [.val (.int x), .val (.int y)])
    (fun e => ∃ u v : Int, e = [.val (.int u), .val (.int v)] ∧ 0 ≤ u ∧ 0 ≤ v ∧ Int.gcd u v = Int.gcd x y)
    (fun e => ∃ z : Int, e = [.val (.int (Int.gcd x y)), .val (.int z)])
    (fun e => match e with
      | [_, .val (.int v)] => v.natAbs
      | _ => 0)
    (fun e ⟨u, v, he, hu, hv, hg⟩ => by
      subst he
      by_cases h0 : 0 < v
      · refine .inr ⟨_, _, (ht u v hu hv).trans (by rw [decide_eq_true h0]), hb u v hu h0, ⟨v, u % v, rfl, hv, Int.emod_nonneg _ (by omega), (gcd_step u v hu h0).trans hg⟩, ?_⟩
        show (u % v).natAbs < v.natAbs
        have h1 := Int.emod_nonneg u (show v ≠ 0 by omega)
        have h2 := Int.emod_lt_of_pos u h0
        omega
      · have : v = 0 := by omega
        subst this
        refine .inl ⟨_, (ht u 0 hu hv).trans (by rw [decide_eq_false h0]), 0, ?_⟩
        rw [← hg, Int.gcd_zero_right]
        congr 3
        omega)
    ⟨x, y, rfl, hx, hy, rfl⟩ hf
  exact ⟨z, h1⟩
/-! ### rows -/
theorem rw_atI (l : List Bool) : (rw_ l).length = l.length := rw_len l
theorem any_eqv_int (l : List Int) (k : Int) : (l.map PyData.int).any (fun z => PyData.eqv z (.int k)) = decide (k ∈ l) := by
  induction l with
  | nil => rfl
  | cons a r ih =>
    rw [List.map_cons, List.any_cons, ih]
    have : PyData.eqv (.int a) (.int k) = decide (a = k) := by
      rw [PyData.eqv]
      by_cases h : a = k
      · subst h; simp
      · rw [decide_eq_false h]; exact beq_eq_false_iff_ne.mpr h
    rw [this]
    by_cases h : a = k
    · subst h; simp
    · simp [h, Ne.symm h]
theorem flat_ints (l : List Int) : (l.map PyData.int).all flatD = true := by
  induction l with
  | nil => rfl
  | cons a r ih => rw [List.map_cons, List.all_cons, ih]; rfl
theorem dIn_ints (l : List Int) (k : Int) : dInB (.int k) (.list (l.map PyData.int)) = some (decide (k ∈ l)) := by
  show (if flatD (.int k) = true ∧ (l.map PyData.int).all flatD = true then some ((l.map PyData.int).any fun z => z.eqv (.int k)) else _) = _
  rw [if_pos ⟨rfl, flat_ints l⟩, any_eqv_int]
theorem dIn_intsT (l : List Int) (k : Int) : dInB (.int k) (.tuple (l.map PyData.int)) = some (decide (k ∈ l)) := by
  show (if flatD (.int k) = true ∧ (l.map PyData.int).all flatD = true then some ((l.map PyData.int).any fun z => z.eqv (.int k)) else _) = _
  rw [if_pos ⟨rfl, flat_ints l⟩, any_eqv_int]
theorem dSum_ints (l : List Int) : dSum [.list (l.map PyData.int)] = some (.int l.sum) := by
  show (intsOf _).map _ = _
  rw [intsOf_map]; rfl
theorem dSum_intsT (l : List Int) : dSum [.tuple (l.map PyData.int)] = some (.int l.sum) := by
  show (intsOf _).map _ = _
  rw [intsOf_map]; rfl
end PL
namespace PL
open PySem PySem.Spec PyProof.Rows L2
theorem sz {n : Nat} (h : n ≤ 100000) : n ≤ sizeLine := by rw [sizeLine_eq]; omega
theorem szl {n : Nat} (h : n < 100000) : n < sizeLine := by rw [sizeLine_eq]; omega
theorem comp_of {α : Type} {g : D → En → Option En} {t : ST} {me : SE} {vs : List Nat} {e0 : En} {ι : α → D} {f : α → D} {c : α → Bool} : ∀ (l : List α), (∀ x ∈ l, ∃ e1, g (ι x) e0 = some e1 ∧ t e1 = some (c x, e1) ∧ (c x = true → me e1 = some (f x, e1)) ∧ wipeE e1 vs = e0) →
    compL g t me vs (l.map ι) e0 = some ((l.filter c).map f, e0)
  | [], _ => rfl
  | d :: ds, h => by
    obtain ⟨e1, h1, h2, h3, h4⟩ := h d List.mem_cons_self
    have ih := comp_of (ι := ι) (f := f) (c := c) ds fun x hx => h x (List.mem_cons_of_mem _ hx)
    rw [List.map_cons]
    unfold compL
    rw [h1, Option.bind_some, h2, Option.bind_some]
    cases hc : c d with
    | true =>
      rw [if_pos rfl, h3 hc, Option.bind_some]
      dsimp only
      rw [h4, ih, Option.map_some, List.filter_cons_of_pos hc, List.map_cons]
    | false =>
      rw [if_neg Bool.false_ne_true]
      dsimp only
      rw [h4, ih, List.filter_cons_of_neg (by rw [hc]; exact Bool.false_ne_true)]
theorem comp_ofM {α : Type} {g : D → En → Option En} {t : ST} {me : SE} {vs : List Nat} {e0 : En} {ι : α → D} {f : α → D} (l : List α) (h : ∀ x ∈ l, ∃ e1, g (ι x) e0 = some e1 ∧ t e1 = some (true, e1) ∧ me e1 = some (f x, e1) ∧ wipeE e1 vs = e0) :
    compL g t me vs (l.map ι) e0 = some (l.map f, e0) := by
  have := comp_of (g := g) (t := t) (me := me) (vs := vs) (e0 := e0) (ι := ι) (f := f) (c := fun _ => true) l fun d hd => by
    obtain ⟨e1, h1, h2, h3, h4⟩ := h d hd
    exact ⟨e1, h1, h2, fun _ => h3, h4⟩
  rw [this, List.filter_eq_self.mpr fun _ _ => rfl]
theorem comp_rgM {g : D → En → Option En} {t : ST} {me : SE} {vs : List Nat} {e0 : En} {f : Nat → D} (n : Nat) (h : ∀ i : Nat, i < n → ∃ e1, g (.int i) e0 = some e1 ∧ t e1 = some (true, e1) ∧ me e1 = some (f i, e1) ∧ wipeE e1 vs = e0) :
    compL g t me vs (rgD 0 n) e0 = some ((List.range n).map f, e0) := by
  rw [rgD0]
  exact comp_ofM _ fun x hx => h x (List.mem_range.mp hx)
theorem comp_rg {g : D → En → Option En} {t : ST} {me : SE} {vs : List Nat} {e0 : En} {f : Nat → D} {c : Nat → Bool} (n : Nat) (h : ∀ i : Nat, i < n → ∃ e1, g (.int i) e0 = some e1 ∧ t e1 = some (c i, e1) ∧ (c i = true → me e1 = some (f i, e1)) ∧ wipeE e1 vs = e0) :
    compL g t me vs (rgD 0 n) e0 = some (((List.range n).filter c).map f, e0) := by
  rw [rgD0]
  exact comp_of _ fun x hx => h x (List.mem_range.mp hx)
theorem atI_range {F : Nat → D} {n i : Nat} (h : i < n) : atI ((List.range n).map F) (i : Int) = some (F i) := atI_map F _ i i (by rw [List.getElem?_range h])
theorem dJoin_rw (l : List Bool) (h : l.length ≤ 1000000) : dJoin (.str "") [.list (l.map fun b => .str (sgn b))] = some (.str (rw_ l)) := by
  have e : (l.map fun b => PyData.str (sgn b)) = (l.map sgn).map PyData.str := by rw [List.map_map]; rfl
  show (strsOf _).bind _ = _
  rw [e, strsOf_map, Option.bind_some, join_rw, if_pos]
  have h1 : ((l.map sgn).map (·.length)).sum = l.length := by
    clear h e
    induction l with
    | nil => rfl
    | cons b r ih =>
      rw [List.map_cons, List.map_cons, List.sum_cons, ih, List.length_cons]
      have : (sgn b).length = 1 := by cases b <;> decide +kernel
      rw [this]; omega
  have h2 : ("" : Str).length = 0 := by decide +kernel
  rw [h1, h2]; omega
end PL
namespace PL
open PySem PySem.Spec PyProof.Rows L2
theorem for_of {α : Type} {g : D → En → Option En} {b : SS} (ι : α → D) (I : List α → En → Prop) : ∀ (post pre : List α) (e : En), (∀ (q : List α) (x : α) (post' : List α) (e : En), q ++ x :: post' = pre ++ post → I q e → ∃ e1 e2, g (ι x) e = some e1 ∧ (b e1 = some (.nx e2) ∨ b e1 = some (.ct e2)) ∧ I (q ++ [x]) e2) → I pre e → ∃ e', forL g b (post.map ι) e = some (.nx e') ∧ I (pre ++ post) e'
  | [], pre, e, _, h0 => ⟨e, rfl, by rw [List.append_nil]; exact h0⟩
  | d :: post, pre, e, h, h0 => by
    obtain ⟨e1, e2, h1, h2, h3⟩ := h pre d post e rfl h0
    obtain ⟨e', q1, q2⟩ := for_of ι I post (pre ++ [d]) e2 (fun q x post' e he hI => h q x post' e (by rw [he, List.append_assoc]; rfl) hI) h3
    refine ⟨e', ?_, by rw [List.append_assoc] at q2; exact q2⟩
    rw [List.map_cons]
    unfold forL
    rw [h1, Option.bind_some]
    rcases h2 with h2 | h2
    · rw [h2, Option.bind_some]; exact q1
    · rw [h2, Option.bind_some]; exact q1
theorem atI_last {ds : List D} {d : D} : atI (ds ++ [d]) (-1) = some d := by
  unfold atI ixN
  rw [List.length_append, List.length_singleton, if_neg (by decide), if_pos (by omega), Option.bind_some, show (-1 + ((ds.length + 1 : Nat) : Int)).toNat = ds.length by omega, List.getElem?_append_right (Nat.le_refl _), Nat.sub_self]
  rfl
theorem szA1 : (0 + 1 ≤ sizeLine) = True := eq_true (sz (by omega))
theorem szA2 : (0 + 1 + 1 ≤ sizeLine) = True := eq_true (sz (by omega))
theorem szA3 : (0 + 1 + 1 + 1 ≤ sizeLine) = True := eq_true (sz (by omega))
theorem szA4 : (0 + 1 + 1 + 1 + 1 ≤ sizeLine) = True := eq_true (sz (by omega))
theorem szA5 : (0 + 1 + 1 + 1 + 1 + 1 ≤ sizeLine) = True := eq_true (sz (by omega))
theorem szA6 : (0 + 1 + 1 + 1 + 1 + 1 + 1 ≤ sizeLine) = True := eq_true (sz (by omega))
theorem szA0 : (0 ≤ sizeLine) = True := eq_true (sz (by omega))
theorem szB0 : (0 < sizeLine) = True := eq_true (szl (by omega))
theorem szB1 : (0 + 1 < sizeLine) = True := eq_true (szl (by omega))
end PL
namespace PL
open PySem PySem.Spec PyProof.Rows L2
theorem mk1 {x y : Int} : MulOk (x % 2147483647) y = True := eq_true (MulOk.l (by omega) (by omega))
theorem mk2 {x : Int} : MulOk x 69621 = True := eq_true (MulOk.r (by omega) (by omega))
theorem mk3 {x : Int} : MulOk x 40692 = True := eq_true (MulOk.r (by omega) (by omega))
theorem mk4 {x : Int} : MulOk x 48271 = True := eq_true (MulOk.r (by omega) (by omega))
theorem mk5 {x : Int} : MulOk 7919 x = True := eq_true (MulOk.l (by omega) (by omega))
theorem mk6 {x : Int} : MulOk 13 x = True := eq_true (MulOk.l (by omega) (by omega))
theorem dk1 : DivOk 1009 = True := eq_true (DivOk.s (by omega) (by omega))
theorem dk2 : DivOk 2003 = True := eq_true (DivOk.s (by omega) (by omega))
theorem dk3 : DivOk 16 = True := eq_true (DivOk.s (by omega) (by omega))
theorem zk1 : ((0 : Int) < 2147483629) = True := eq_true (by omega)
theorem zk2 : ((0 : Int) < 2147483647) = True := eq_true (by omega)
theorem zk3 : ((0 : Int) < 2147483563) = True := eq_true (by omega)
theorem pk18 : dPow (.int 10) (.int 18) = some (.int 1000000000000000000) := by
  show (if 0 ≤ (18 : Int) ∧ (18 : Int) ≤ 1000 ∧ (10 : Int).natAbs < 2 ^ 64 then some (PyData.int (10 ^ (18 : Int).toNat)) else none) = _
  rw [if_pos (by decide)]; rfl
theorem pk6 : dPow (.int 10) (.int 6) = some (.int 1000000) := by
  show (if 0 ≤ (6 : Int) ∧ (6 : Int) ≤ 1000 ∧ (10 : Int).natAbs < 2 ^ 64 then some (PyData.int (10 ^ (6 : Int).toNat)) else none) = _
  rw [if_pos (by decide)]; rfl
theorem pk4 : dPow (.int 10) (.int 4) = some (.int 10000) := by
  show (if 0 ≤ (4 : Int) ∧ (4 : Int) ≤ 1000 ∧ (10 : Int).natAbs < 2 ^ 64 then some (PyData.int (10 ^ (4 : Int).toNat)) else none) = _
  rw [if_pos (by decide)]; rfl
theorem ix5_0 : ixN (0 + 1 + 1 + 1 + 1 + 1) 0 = some 0 := by decide
theorem ix5_1 : ixN (0 + 1 + 1 + 1 + 1 + 1) 1 = some 1 := by decide
theorem ix5_2 : ixN (0 + 1 + 1 + 1 + 1 + 1) 2 = some 2 := by decide
theorem ix5_3 : ixN (0 + 1 + 1 + 1 + 1 + 1) 3 = some 3 := by decide
theorem ix5_4 : ixN (0 + 1 + 1 + 1 + 1 + 1) 4 = some 4 := by decide
theorem atI_int {ds : List D} {i : Int} (h0 : 0 ≤ i) (h1 : i < ds.length) : ∃ d, atI ds i = some d ∧ d ∈ ds := by
  obtain ⟨n, rfl⟩ := Int.eq_ofNat_of_zero_le h0
  have h2 : n < ds.length := by omega
  exact ⟨ds[n], atI_nat (List.getElem?_eq_getElem h2), List.getElem_mem h2⟩
theorem cutS_to (l : List Bool) (a : Nat) (h : a ≤ l.length) : cutS (rw_ l) none (some (a : Int)) = rw_ (l.take a) := by
  rw [cutS_rw, HT.sIx_nat, HT.sIx_none, List.drop_zero, Nat.sub_zero, Nat.min_eq_left h]
theorem cutS_from (l : List Bool) (a : Nat) (h : a ≤ l.length) : cutS (rw_ l) (some (a : Int)) none = rw_ (l.drop a) := by
  rw [cutS_rw, HT.sIx_nat, HT.sIx_none, Nat.min_eq_left h, List.take_of_length_le (by rw [List.length_drop]; omega)]
theorem cut_init (l : List D) (d : D) : cutD (l ++ [d]) none (some (-1)) = l := by
  show ((l ++ [d]).drop 0).take ((if (-1 : Int) < 0 then ((-1 : Int) + ((l ++ [d]).length : Nat)).toNat else min (-1 : Int).toNat (l ++ [d]).length) - 0) = l
  rw [if_pos (by omega), List.drop_zero, Nat.sub_zero, List.length_append, List.length_singleton, show ((-1 : Int) + ((l.length + 1 : Nat) : Int)).toNat = l.length by omega, List.take_left']
  rfl
end PL
namespace PL
open PySem PySem.Spec PyProof.Rows L2
def fsqB (r : Option Out) (m : En → Option (List D)) : Option (List D) := match r with
  | some (.nx e) => m e
  | _ => none
def fretB (r : Option (List D × En)) : Option (List D) := match r with
  | some (d, _) => some d
  | none => none
theorem e_fSeq {s : Sl} {e : En} {b : SS} {m : En → Option (List D)} : fSeq b m (s :: e) = fsqB (b (s :: e)) m := by
  unfold fSeq fsqB
  cases b (s :: e) with
  | none => rfl
  | some o => cases o <;> rfl
theorem fsq_s {e : En} {m : En → Option (List D)} : fsqB (some (.nx e)) m = m e := noRfl rfl
theorem e_fRet {s : Sl} {e : En} {m : SF} : fRet m (s :: e) = fretB (m (s :: e)) := by
  unfold fRet fretB
  cases m (s :: e) <;> rfl
theorem fret_s {e : En} {d : List D} : fretB (some (d, e)) = some d := noRfl rfl
end PL
namespace PL
open PySem PySem.Spec PyProof.Rows L2
theorem dNotIn_intsT (l : List Int) (k : Int) : dNotIn (.int k) (.tuple (l.map PyData.int)) = some (.bool (!decide (k ∈ l))) := by
  unfold dNotIn
  rw [dIn_intsT]; rfl
theorem dNotIn_ints (l : List Int) (k : Int) : dNotIn (.int k) (.list (l.map PyData.int)) = some (.bool (!decide (k ∈ l))) := by
  unfold dNotIn
  rw [dIn_ints]; rfl
theorem dMax_ints {l : List Int} {M : Int} (h1 : M ∈ l) (h2 : ∀ y ∈ l, y ≤ M) : dMax [.list (l.map PyData.int)] = some (.int M) := by
  show (intsOf _).bind _ = _
  rw [intsOf_map, Option.bind_some]
  have h0 : l ≠ [] := fun e => by subst e; cases h1
  rw [if_neg (by intro e; exact h0 (List.length_eq_zero_iff.mp e))]
  have h3 := h2 _ (maxI_mem h0)
  have h4 := maxI_le h1
  rw [show maxI l = M by omega]
theorem dEq_one (x : Int) : dEq (.list [.int x]) (.list [.int x]) = some (.bool true) := by
  show (if SeqAt.shaped (.list [.int x]) = true ∧ SeqAt.shaped (.list [.int x]) = true then some (PyData.eqv (.list [.int x]) (.list [.int x])) else none).map PyData.bool = _
  rw [if_pos ⟨rfl, rfl⟩]
  simp [PyData.eqv, PyData.eqvAll]
end PL
namespace PL
open PySem PySem.Spec PyProof.Rows L2
theorem whL_indM {t : ST} {b : SS} (I : Nat → En → Prop) (J : En → Prop) (h : ∀ m e, I m e → (∃ e1, t e = some (false, e1) ∧ J e1) ∨ (∃ e1 e2 m', m' < m ∧ t e = some (true, e1) ∧ b e1 = some (.nx e2) ∧ I m' e2)) : ∀ (n m : Nat) (e : En), I m e → m < n → ∃ e', whL t b n e = some (.nx e') ∧ J e'
  | 0, m, e, _, hm => absurd hm (Nat.not_lt_zero _)
  | n + 1, m, e, hI, hm => by
    rcases h m e hI with ⟨e1, h1, h2⟩ | ⟨e1, e2, m', h4, h1, h2, h3⟩
    · refine ⟨e1, ?_, h2⟩
      unfold whL
      rw [h1, Option.bind_some, if_neg Bool.false_ne_true]
    · obtain ⟨e', q1, q2⟩ := whL_indM I J h n m' e2 h3 (by omega)
      refine ⟨e', ?_, q2⟩
      unfold whL
      rw [h1, Option.bind_some, if_pos rfl, h2, Option.bind_some]
      exact q1
theorem while_indM {t : ST} {b : SS} {e : En} (I : Nat → En → Prop) (J : En → Prop) (h : ∀ m e, I m e → (∃ e1, t e = some (false, e1) ∧ J e1) ∨ (∃ e1 e2 m', m' < m ∧ t e = some (true, e1) ∧ b e1 = some (.nx e2) ∧ I m' e2)) (m : Nat) (hI : I m e) (hm : m < fuel) : ∃ e', sWhile t b e = some (.nx e') ∧ J e' :=
  whL_indM I J h fuel m e hI hm
theorem sgn_rw (b : Bool) : sgn b = rw_ [b] := by rw [sgn_eq]; rfl
theorem add_sgn (l : List Bool) (b : Bool) : rw_ l ++ sgn b = rw_ (l ++ [b]) := by rw [sgn_rw, rw_append]
theorem rw_nil : (Str.ofString "") = rw_ [] := by decide +kernel
theorem dStr_sgn (b : Bool) : dStr [.int (if b then 1 else 0)] = some (.str (sgn b)) := by cases b <;> kernel_rfl
theorem dInt_sgn (b : Bool) : dInt [.str (sgn b)] = some (.int (if b then 1 else 0)) := by cases b <;> kernel_rfl
theorem prs_map {α : Type} (f g : α → D) (l : List α) : prs (l.map f) (l.map g) = l.map fun x => .tuple [f x, g x] := by
  unfold prs
  rw [List.zip_map', List.map_map]
  rfl
theorem dEq_same {d : D} (h : SeqAt.shaped d = true) (hl : match d with | .list _ => True | .tuple _ => True | _ => False) : dEq d d = some (.bool true) := by
  have e := SeqAt.eqv_refl d (SeqAt.canLay_of_shaped h)
  cases d <;> first | cases hl | skip
  · show (if SeqAt.shaped (.list _) = true ∧ SeqAt.shaped (.list _) = true then some (PyData.eqv (.list _) (.list _)) else none).map PyData.bool = _
    rw [if_pos ⟨h, h⟩, e]; rfl
  · show (if SeqAt.shaped (.tuple _) = true ∧ SeqAt.shaped (.tuple _) = true then some (PyData.eqv (.tuple _) (.tuple _)) else none).map PyData.bool = _
    rw [if_pos ⟨h, h⟩, e]; rfl
theorem dNe_same {d : D} (h : SeqAt.shaped d = true) (hl : match d with | .list _ => True | .tuple _ => True | _ => False) : dNe d d = some (.bool false) := by
  have e := SeqAt.eqv_refl d (SeqAt.canLay_of_shaped h)
  cases d <;> first | cases hl | skip
  · show (if SeqAt.shaped (.list _) = true ∧ SeqAt.shaped (.list _) = true then some (PyData.eqv (.list _) (.list _)) else none).map (fun k => PyData.bool (!k)) = _
    rw [if_pos ⟨h, h⟩, e]; rfl
  · show (if SeqAt.shaped (.tuple _) = true ∧ SeqAt.shaped (.tuple _) = true then some (PyData.eqv (.tuple _) (.tuple _)) else none).map (fun k => PyData.bool (!k)) = _
    rw [if_pos ⟨h, h⟩, e]; rfl
theorem shaped_ints (l : List Int) : SeqAt.shaped (.list (l.map PyData.int)) = true := by
  have h2 : PyData.depthAll (l.map PyData.int) ≤ 1 := by
    induction l with
    | nil => simp [PyData.depthAll]
    | cons a r ih => simp only [List.map_cons, PyData.depthAll, PyData.depth]; omega
  have h1 : PyData.canLayAll0 (l.map PyData.int) = true := by
    clear h2
    induction l with
    | nil => rfl
    | cons a r ih => simp [PyData.canLayAll0, PyData.canLay0, ih]
  unfold SeqAt.shaped
  rw [show PyData.canLay0 (.list (l.map PyData.int)) = true from h1, show PyData.depth (.list (l.map PyData.int)) = PyData.depthAll (l.map PyData.int) + 1 from rfl]
  simp; omega
end PL
namespace PL
open PySem PySem.Spec PyProof.Rows L2
theorem any_one (l : List Bool) : decide (49 ∈ (rw_ l).cps.toList) = l.any id := by
  unfold rw_
  show decide (49 ∈ l.map cod) = _
  induction l with
  | nil => rfl
  | cons a r ih =>
    cases a
    · rw [List.any_cons, ← ih]; simp [cod]
    · simp [cod]
theorem dIn_one (l : List Bool) : dIn (.str "1") (.str (rw_ l)) = some (.bool (l.any id)) := by
  show (some (!(Builtin.Str.occurrences (rw_ l) "1" 0 (rw_ l).length 1).isEmpty)).map PyData.bool = _
  have e : ("1" : Str) = ⟨#[49]⟩ := by decide +kernel
  rw [e, StrLaws.found_one, any_one]; rfl
theorem dNotIn_one (l : List Bool) : dNotIn (.str "1") (.str (rw_ l)) = some (.bool (!l.any id)) := by
  show (some (!(Builtin.Str.occurrences (rw_ l) "1" 0 (rw_ l).length 1).isEmpty)).map (fun k => PyData.bool (!k)) = _
  have e : ("1" : Str) = ⟨#[49]⟩ := by decide +kernel
  rw [e, StrLaws.found_one, any_one]; rfl
theorem cutD_from (l : List D) (a : Nat) (h : a ≤ l.length) : cutD l (some (a : Int)) none = l.drop a := by
  unfold cutD
  rw [HT.sIx_nat, HT.sIx_none, Nat.min_eq_left h, List.take_of_length_le (by rw [List.length_drop]; omega)]
theorem cutD_to (l : List D) (a : Nat) (h : a ≤ l.length) : cutD l none (some (a : Int)) = l.take a := by
  unfold cutD
  rw [HT.sIx_nat, HT.sIx_none, List.drop_zero, Nat.sub_zero, Nat.min_eq_left h]
theorem drop_range {α : Type} (f : Nat → α) (n a : Nat) : ((List.range n).map f).drop a = (List.range (n - a)).map fun j => f (a + j) := by
  apply List.ext_getElem
  · simp
  · intro i h1 h2
    simp
theorem range_drop (m : Nat) (f : Nat → D) : cutD ((List.range (m + 1)).map f) (some 1) none = (List.range m).map fun j => f (j + 1) := by
  have h := cutD_from ((List.range (m + 1)).map f) 1 (by rw [List.length_map, List.length_range]; omega)
  refine h.trans ?_
  rw [drop_range]
  show (List.range m).map _ = _
  apply List.map_congr_left
  intro j _
  rw [Nat.add_comm]
end PL
namespace PL
open PySem PySem.Spec PyProof.Rows L2
theorem dMax_some {l : List Int} (h : l ≠ []) : ∃ M, dMax [.list (l.map PyData.int)] = some (.int M) ∧ M ∈ l := by
  refine ⟨maxI l, ?_, maxI_mem h⟩
  show (intsOf _).bind _ = _
  rw [intsOf_map, Option.bind_some, if_neg (by intro e; exact h (List.length_eq_zero_iff.mp e))]
theorem dMin_some {l : List Int} (h : l ≠ []) : ∃ M, dMin [.list (l.map PyData.int)] = some (.int M) ∧ M ∈ l := by
  refine ⟨minI l, ?_, minI_mem h⟩
  show (intsOf _).bind _ = _
  rw [intsOf_map, Option.bind_some, if_neg (by intro e; exact h (List.length_eq_zero_iff.mp e))]
theorem prs_range (f g : Nat → D) (a b : Nat) (h : b ≤ a) : prs ((List.range a).map f) ((List.range b).map g) = (List.range b).map fun j => .tuple [f j, g j] := by
  unfold prs
  apply List.ext_getElem
  · simp; omega
  · intro i h1 h2
    simp
theorem pk11 : dPow (.int 10) (.int 11) = some (.int 100000000000) := by
  show (if 0 ≤ (11 : Int) ∧ (11 : Int) ≤ 1000 ∧ (10 : Int).natAbs < 2 ^ 64 then some (PyData.int (10 ^ (11 : Int).toNat)) else none) = _
  rw [if_pos (by decide)]; rfl
end PL
namespace PL
open PySem PySem.Spec PyProof.Rows L2
theorem strOk_rw (l : List Bool) : PyData.strOk (rw_ l) = true := by
  unfold PyData.strOk rw_
  simp
  exact ⟨fun _ => by decide, fun _ => by decide⟩
end PL

/-! meanings of the defs of k24, printed by gen.py -/
namespace W
open PySem PySem.Spec PyProof.Rows L2 PL
/- is_integer: 0 thing -/
def t_is_integer : SS := (sRet (eAnd (eIsi "int" (eNm 0)) (eNot (eIsi "bool" (eNm 0)))))
def m_is_integer : List D → Option D := mD 1 1 t_is_integer
/- is_within: 0 thing 1 low 2 high -/
def t_is_within : SS := (sRet (eAnd (eCall m_is_integer (aCons (eNm 0) aNil)) (eChain dLe dLe (eNm 1) (eNm 0) (eNm 2))))
def m_is_within : List D → Option D := mD 3 3 t_is_within
/- is_tuple_of: 0 thing 1 many -/
def t_is_tuple_of : SS := (sRet (eAnd (eIsi "tuple" (eNm 0)) (eBin dEq (eCall dLen (aCons (eNm 0) aNil)) (eNm 1))))
def m_is_tuple_of : List D → Option D := mD 2 2 t_is_tuple_of
/- common: 0 one 1 other -/
def b_common_1 : SS := (sPar 0 1 (aCons (eNm 1) (aCons (eBin dMod (eNm 0) (eNm 1)) aNil)))
def w_common_1 : SS := sWhile (tst (eBin dGt (eNm 1) (eC (.int 0)))) b_common_1
def t_common : SS := (sSeq (sPar 0 1 (aCons (eCall dAbs (aCons (eNm 0) aNil)) (aCons (eCall dAbs (aCons (eNm 1) aNil)) aNil)))
    (sSeq w_common_1
    (sRet (eNm 0))))
def m_common : List D → Option D := mD 2 2 t_common
/- is_fraction: 0 thing -/
def t_is_fraction : SS := (sSeq (sIf (cOr (cNot (tst (eCall m_is_tuple_of (aCons (eNm 0) (aCons (eC (.int 2)) aNil))))) (cOr (cNot (tst (eCall m_is_integer (aCons (eBin dIx (eNm 0) (eC (.int 0))) aNil)))) (cNot (tst (eCall m_is_integer (aCons (eBin dIx (eNm 0) (eC (.int 1))) aNil)))))) (sRet (eC (.bool false))) sNext)
    (sRet (eAnd (eBin dGe (eBin dIx (eNm 0) (eC (.int 1))) (eC (.int 1))) (eBin dEq (eCall m_common (aCons (eBin dIx (eNm 0) (eC (.int 0))) (aCons (eBin dIx (eNm 0) (eC (.int 1))) aNil))) (eC (.int 1))))))
def m_is_fraction : List D → Option D := mD 1 1 t_is_fraction
/- frac: 0 top 1 bottom 2 divisor -/
def t_frac : SS := (sSeq (sSet 2 (eCall m_common (aCons (eNm 0) (aCons (eNm 1) aNil))))
    (sSeq (sIf (tst (eBin dLt (eNm 1) (eC (.int 0)))) (sSet 2 (eUn dNeg (eNm 2))) sNext)
    (sRet (eTup (aCons (eBin dDiv (eNm 0) (eNm 2)) (aCons (eBin dDiv (eNm 1) (eNm 2)) aNil))))))
def m_frac : List D → Option D := mD 2 3 t_frac
/- less: 0 one 1 other -/
def t_less : SS := (sRet (eBin dLt (eBin dMul (eBin dIx (eNm 0) (eC (.int 0))) (eBin dIx (eNm 1) (eC (.int 1)))) (eBin dMul (eBin dIx (eNm 1) (eC (.int 0))) (eBin dIx (eNm 0) (eC (.int 1))))))
def m_less : List D → Option D := mD 2 2 t_less
/- is_signs: 0 thing 1 sign -/
def q_is_signs_1 : SF := fComp (iAny (eNm 0)) (gNm 1) cYes (eBin dIn (eNm 1) (eTup (aCons (eC (.str "0")) (aCons (eC (.str "1")) aNil)))) [1]
def t_is_signs : SS := (sRet (eAnd (eIsi "str" (eNm 0)) (eAnd (eBin dGt (eCall dLen (aCons (eNm 0) aNil)) (eC (.int 0))) (eCall dAll (aCons (eOf q_is_signs_1) aNil)))))
def m_is_signs : List D → Option D := mD 1 2 t_is_signs
/- is_row: 0 thing -/
def t_is_row : SS := (sRet (eAnd (eCall m_is_signs (aCons (eNm 0) aNil)) (eBin dLe (eCall dLen (aCons (eNm 0) aNil)) (eC (.int 500)))))
def m_is_row : List D → Option D := mD 1 1 t_is_row
/- check_row: 0 row -/
def t_check_row : SS := (sIf (cNot (tst (eCall m_is_row (aCons (eNm 0) aNil)))) sNever sNext)
def m_check_row : List D → Option D := mD 1 1 t_check_row
/- duties_of: 0 row 1 day 2 sign -/
def q_duties_of_1 : SF := fComp (iEnA (aCons (eNm 0) aNil)) (gTupD 2 (gsCons (gNm 1) (gsCons (gNm 2) gsNil))) (tst (eBin dEq (eNm 2) (eC (.str "1")))) (eNm 1) [1, 2]
def t_duties_of : SS := (sRet (eOf q_duties_of_1))
def m_duties_of : List D → Option D := mD 1 3 t_duties_of
/- round_gaps: 0 row 1 days 2 later 3 day 4 after -/
def q_round_gaps_1 : SF := fComp (iZp (aCons (eNm 1) (aCons (eNm 2) aNil))) (gTupD 2 (gsCons (gNm 3) (gsCons (gNm 4) gsNil))) cYes (eBin dSub (eNm 4) (eNm 3)) [3, 4]
def t_round_gaps : SS := (sSeq (sSet 1 (eCall m_duties_of (aCons (eNm 0) aNil)))
    (sSeq (sSet 2 (eBin dAdd (eSl dSl (eNm 1) (oSome (eC (.int 1))) oNone) (eOf (fLst (aCons (eBin dAdd (eBin dIx (eNm 1) (eC (.int 0))) (eCall dLen (aCons (eNm 0) aNil))) aNil)))))
    (sRet (eOf q_round_gaps_1))))
def m_round_gaps : List D → Option D := mD 1 5 t_round_gaps
/- check_duty: 0 row -/
def t_check_duty : SS := (sSeq (sExpr (eCall m_check_row (aCons (eNm 0) aNil)))
    (sIf (tst (eBin dNotIn (eC (.str "1")) (eNm 0))) sNever sNext))
def m_check_duty : List D → Option D := mD 1 1 t_check_duty
/- gaps_of: 0 row -/
def t_gaps_of : SS := (sSeq (sExpr (eCall m_check_duty (aCons (eNm 0) aNil)))
    (sRet (eCall dTuple (aCons (eCall m_round_gaps (aCons (eNm 0) aNil)) aNil))))
def m_gaps_of : List D → Option D := mD 1 1 t_gaps_of
/- derived_of: 0 row 1 gaps 2 least 3 gap -/
def q_derived_of_1 : SF := fComp (iAny (eNm 1)) (gNm 3) cYes (eIf (tst (eBin dGt (eNm 3) (eNm 2))) (eC (.str "1")) (eC (.str "0"))) [3]
def q_derived_of_2 : SF := fComp (iAny (eNm 1)) (gNm 3) cYes (eBin dIn (eNm 3) (eTup (aCons (eNm 2) (aCons (eBin dAdd (eNm 2) (eC (.int 1))) aNil)))) [3]
def t_derived_of : SS := (sSeq (sSet 1 (eCall m_round_gaps (aCons (eNm 0) aNil)))
    (sSeq (sSet 2 (eBin dDiv (eCall dLen (aCons (eNm 0) aNil)) (eCall dLen (aCons (eNm 1) aNil))))
    (sSeq (sIf (cNot (tst (eCall dAll (aCons (eOf q_derived_of_2) aNil)))) (sRet (eC .none)) sNext)
    (sRet (eTup (aCons (eMeth dJoin (eC (.str "")) (aCons (eOf q_derived_of_1) aNil)) (aCons (eNm 2) aNil)))))))
def m_derived_of : List D → Option D := mD 1 4 t_derived_of
/- derived: 0 row -/
def t_derived : SS := (sSeq (sExpr (eCall m_check_duty (aCons (eNm 0) aNil)))
    (sRet (eCall m_derived_of (aCons (eNm 0) aNil))))
def m_derived : List D → Option D := mD 1 1 t_derived
/- ladder_of: 0 row 1 stages 2 here 3 found 4 gaps -/
def b_ladder_of_1 : SS := (sSeq (sSet 3 (eCall m_derived_of (aCons (eNm 2) aNil)))
    (sSeq (sIf (tst (eBin dIs (eNm 3) (eC .none))) (sSeq (sSet 4 (eCall m_round_gaps (aCons (eNm 2) aNil)))
    (sRet (eTup (aCons (eC (.str "uneven")) (aCons (eCall dTuple (aCons (eBin dAdd (eNm 1) (eOf (fLst (aCons (eTup (aCons (eNm 2) (aCons (eC .none) aNil))) aNil)))) aNil)) (aCons (eTup (aCons (eCall dMin (aCons (eNm 4) aNil)) (aCons (eCall dMax (aCons (eNm 4) aNil)) aNil))) aNil)))))) sNext)
    (sSeq (sApp 1 (eTup (aCons (eNm 2) (aCons (eBin dIx (eNm 3) (eC (.int 1))) aNil))))
    (sSet 2 (eBin dIx (eNm 3) (eC (.int 0)))))))
def w_ladder_of_1 : SS := sWhile (tst (eBin dIn (eC (.str "1")) (eNm 2))) b_ladder_of_1
def t_ladder_of : SS := (sSeq (sOwn 1 (fLst aNil))
    (sSeq (sSet 2 (eNm 0))
    (sSeq w_ladder_of_1
    (sRet (eTup (aCons (eC (.str "even")) (aCons (eCall dTuple (aCons (eBin dAdd (eNm 1) (eOf (fLst (aCons (eTup (aCons (eNm 2) (aCons (eC .none) aNil))) aNil)))) aNil)) aNil)))))))
def m_ladder_of : List D → Option D := mD 1 5 t_ladder_of
/- ladder: 0 row -/
def t_ladder : SS := (sSeq (sExpr (eCall m_check_row (aCons (eNm 0) aNil)))
    (sRet (eCall m_ladder_of (aCons (eNm 0) aNil))))
def m_ladder : List D → Option D := mD 1 1 t_ladder
/- is_line: 0 thing -/
def t_is_line : SS := (sSeq (sIf (cOr (cNot (tst (eCall m_is_tuple_of (aCons (eNm 0) (aCons (eC (.int 2)) aNil))))) (cOr (cNot (tst (eCall m_is_fraction (aCons (eBin dIx (eNm 0) (eC (.int 0))) aNil)))) (cNot (tst (eCall m_is_fraction (aCons (eBin dIx (eNm 0) (eC (.int 1))) aNil)))))) (sRet (eC (.bool false))) sNext)
    (sSeq (sIf (cOr (tst (eCall m_less (aCons (eBin dIx (eNm 0) (eC (.int 0))) (aCons (eC (.tuple [(.int 0), (.int 1)])) aNil)))) (tst (eCall m_less (aCons (eC (.tuple [(.int 1), (.int 1)])) (aCons (eBin dIx (eNm 0) (eC (.int 0))) aNil))))) (sRet (eC (.bool false))) sNext)
    (sRet (eAnd (eNot (eCall m_less (aCons (eBin dIx (eNm 0) (eC (.int 1))) (aCons (eC (.tuple [(.int 0), (.int 1)])) aNil)))) (eCall m_less (aCons (eBin dIx (eNm 0) (eC (.int 1))) (aCons (eC (.tuple [(.int 1), (.int 1)])) aNil)))))))
def m_is_line : List D → Option D := mD 1 1 t_is_line
/- is_rule: 0 thing -/
def t_is_rule : SS := (sRet (eAnd (eCall m_is_line (aCons (eNm 0) aNil)) (eAnd (eBin dLe (eBin dIx (eBin dIx (eNm 0) (eC (.int 0))) (eC (.int 1))) (eC (.int 10000))) (eBin dLe (eBin dIx (eBin dIx (eNm 0) (eC (.int 1))) (eC (.int 1))) (eC (.int 10000))))))
def m_is_rule : List D → Option D := mD 1 1 t_is_rule
/- check_rule: 0 rule -/
def t_check_rule : SS := (sIf (cNot (tst (eCall m_is_rule (aCons (eNm 0) aNil)))) sNever sNext)
def m_check_rule : List D → Option D := mD 1 1 t_check_rule
/- total_to: 0 rule 1 n 2 step 3 start -/
def t_total_to : SS := (sSeq (sAsg (eNm 0) (gTupD 2 (gsCons (gNm 2) (gsCons (gNm 3) gsNil))))
    (sRet (eBin dDiv (eBin dAdd (eBin dMul (eBin dMul (eNm 1) (eBin dIx (eNm 2) (eC (.int 0)))) (eBin dIx (eNm 3) (eC (.int 1)))) (eBin dMul (eBin dIx (eNm 3) (eC (.int 0))) (eBin dIx (eNm 2) (eC (.int 1))))) (eBin dMul (eBin dIx (eNm 2) (eC (.int 1))) (eBin dIx (eNm 3) (eC (.int 1)))))))
def m_total_to : List D → Option D := mD 2 4 t_total_to
/- row_of: 0 rule 1 first 2 length 3 totals 4 day -/
def q_row_of_1 : SF := fComp (iRg1 (aCons (eNm 2) aNil)) (gNm 4) cYes (eIf (tst (eBin dGt (eBin dIx (eNm 3) (eBin dAdd (eNm 4) (eC (.int 1)))) (eBin dIx (eNm 3) (eNm 4)))) (eC (.str "1")) (eC (.str "0"))) [4]
def q_row_of_2 : SF := fComp (iRg1 (aCons (eBin dAdd (eNm 2) (eC (.int 1))) aNil)) (gNm 4) cYes (eCall m_total_to (aCons (eNm 0) (aCons (eBin dAdd (eNm 1) (eNm 4)) aNil))) [4]
def t_row_of : SS := (sSeq (sSet 3 (eOf q_row_of_2))
    (sRet (eMeth dJoin (eC (.str "")) (aCons (eOf q_row_of_1) aNil))))
def m_row_of : List D → Option D := mD 3 5 t_row_of
/- made: 0 rule 1 first 2 length -/
def t_made : SS := (sSeq (sExpr (eCall m_check_rule (aCons (eNm 0) aNil)))
    (sSeq (sIf (cOr (cNot (tst (eCall m_is_within (aCons (eNm 1) (aCons (eC (.int 0)) (aCons (eC (.int 1000000000000)) aNil)))))) (cNot (tst (eCall m_is_within (aCons (eNm 2) (aCons (eC (.int 1)) (aCons (eC (.int 500)) aNil))))))) sNever sNext)
    (sRet (eCall m_row_of (aCons (eNm 0) (aCons (eNm 1) (aCons (eNm 2) aNil)))))))
def m_made : List D → Option D := mD 3 3 t_made
/- nth_duty: 0 rule 1 k 2 step 3 start 4 top 5 bottom -/
def t_nth_duty : SS := (sSeq (sExpr (eCall m_check_rule (aCons (eNm 0) aNil)))
    (sSeq (sIf (cNot (tst (eCall m_is_within (aCons (eNm 1) (aCons (eC (.int 0)) (aCons (eC (.int 1000000000000)) aNil)))))) sNever sNext)
    (sSeq (sAsg (eNm 0) (gTupD 2 (gsCons (gNm 2) (gsCons (gNm 3) gsNil))))
    (sSeq (sIf (tst (eBin dEq (eNm 2) (eC (.tuple [(.int 0), (.int 1)])))) sNever sNext)
    (sSeq (sSet 4 (eBin dMul (eBin dSub (eBin dMul (eBin dAdd (eNm 1) (eC (.int 1))) (eBin dIx (eNm 3) (eC (.int 1)))) (eBin dIx (eNm 3) (eC (.int 0)))) (eBin dIx (eNm 2) (eC (.int 1)))))
    (sSeq (sSet 5 (eBin dMul (eBin dIx (eNm 2) (eC (.int 0))) (eBin dIx (eNm 3) (eC (.int 1)))))
    (sRet (eBin dSub (eUn dNeg (eBin dDiv (eUn dNeg (eNm 4)) (eNm 5))) (eC (.int 1))))))))))
def m_nth_duty : List D → Option D := mD 2 6 t_nth_duty
/- form_of: 0 rule 1 step 2 start -/
def t_form_of : SS := (sSeq (sAsg (eNm 0) (gTupD 2 (gsCons (gNm 1) (gsCons (gNm 2) gsNil))))
    (sRet (eTup (aCons (eBin dIx (eNm 1) (eC (.int 0))) (aCons (eBin dIx (eNm 1) (eC (.int 1))) (aCons (eBin dDiv (eBin dMul (eBin dIx (eNm 1) (eC (.int 1))) (eBin dIx (eNm 2) (eC (.int 0)))) (eBin dIx (eNm 2) (eC (.int 1)))) aNil))))))
def m_form_of : List D → Option D := mD 1 3 t_form_of
/- normal: 0 rule -/
def t_normal : SS := (sSeq (sExpr (eCall m_check_rule (aCons (eNm 0) aNil)))
    (sRet (eCall m_form_of (aCons (eNm 0) aNil))))
def m_normal : List D → Option D := mD 1 1 t_normal
/- made_of: 0 form -/
def t_made_of : SS := (sRet (eTup (aCons (eCall m_frac (aCons (eBin dIx (eNm 0) (eC (.int 0))) (aCons (eBin dIx (eNm 0) (eC (.int 1))) aNil))) (aCons (eCall m_frac (aCons (eBin dIx (eNm 0) (eC (.int 2))) (aCons (eBin dIx (eNm 0) (eC (.int 1))) aNil))) aNil))))
def m_made_of : List D → Option D := mD 1 1 t_made_of
/- rule_of: 0 form -/
def t_rule_of : SS := (sSeq (sIf (cOr (cNot (tst (eCall m_is_tuple_of (aCons (eNm 0) (aCons (eC (.int 3)) aNil))))) (cOr (cNot (tst (eCall m_is_within (aCons (eBin dIx (eNm 0) (eC (.int 1))) (aCons (eC (.int 1)) (aCons (eC (.int 10000)) aNil)))))) (cNot (tst (eCall m_is_within (aCons (eBin dIx (eNm 0) (eC (.int 0))) (aCons (eC (.int 0)) (aCons (eBin dIx (eNm 0) (eC (.int 1))) aNil)))))))) sNever sNext)
    (sSeq (sIf (cOr (tst (eBin dNe (eCall m_common (aCons (eBin dIx (eNm 0) (eC (.int 0))) (aCons (eBin dIx (eNm 0) (eC (.int 1))) aNil))) (eC (.int 1)))) (cNot (tst (eCall m_is_within (aCons (eBin dIx (eNm 0) (eC (.int 2))) (aCons (eC (.int 0)) (aCons (eBin dSub (eBin dIx (eNm 0) (eC (.int 1))) (eC (.int 1))) aNil))))))) sNever sNext)
    (sRet (eCall m_made_of (aCons (eNm 0) aNil)))))
def m_rule_of : List D → Option D := mD 1 1 t_rule_of
/- has_duty: 0 rule 1 day -/
def t_has_duty : SS := (sRet (eBin dGt (eCall m_total_to (aCons (eNm 0) (aCons (eBin dAdd (eNm 1) (eC (.int 1))) aNil))) (eCall m_total_to (aCons (eNm 0) (aCons (eNm 1) aNil)))))
def m_has_duty : List D → Option D := mD 2 2 t_has_duty
/- first_parting: 0 one 1 other 2 day -/
def b_first_parting_1 : SS := (sIf (tst (eBin dNe (eCall m_has_duty (aCons (eNm 0) (aCons (eNm 2) aNil))) (eCall m_has_duty (aCons (eNm 1) (aCons (eNm 2) aNil))))) (sRet (eNm 2)) sNext)
def w_first_parting_1 : SS := sFor (iRg1 (aCons (eBin dAdd (eBin dIx (eBin dIx (eNm 0) (eC (.int 0))) (eC (.int 1))) (eBin dIx (eBin dIx (eNm 1) (eC (.int 0))) (eC (.int 1)))) aNil)) (gNm 2) b_first_parting_1
def t_first_parting : SS := (sSeq (sIf (tst (eBin dEq (eCall m_form_of (aCons (eNm 0) aNil)) (eCall m_form_of (aCons (eNm 1) aNil)))) (sRet (eC .none)) sNext)
    (sSeq w_first_parting_1
    (sRet (eC .none))))
def m_first_parting : List D → Option D := mD 2 3 t_first_parting
/- parts_at: 0 one 1 other -/
def t_parts_at : SS := (sSeq (sExpr (eCall m_check_rule (aCons (eNm 0) aNil)))
    (sSeq (sExpr (eCall m_check_rule (aCons (eNm 1) aNil)))
    (sRet (eCall m_first_parting (aCons (eNm 0) (aCons (eNm 1) aNil))))))
def m_parts_at : List D → Option D := mD 2 2 t_parts_at
/- _law_hand: 0 script 1 cells 2 cell -/
def q_law_hand_1 : SF := fComp (iAny (eSl dSl (eNm 0) oNone (oSome (eC (.int 63))))) (gNm 2) cYes (eCall dAbs (aCons (eCall dInt (aCons (eNm 2) aNil)) aNil)) [2]
def t_law_hand : En → Option (List D) := (fSeq (sSet 1 (eOf q_law_hand_1)) (fRet (fLst (aCons (eNm 1) (aCons (eC (.int 0)) (aCons (eC (.int 0)) (aCons (eBin dAdd (eC (.int 41011)) (eBin dMul (eC (.int 13)) (eCall dLen (aCons (eNm 1) aNil)))) (aCons (eC (.int 0)) aNil))))))))
def m_law_hand : List D → Option (List D) := mF 1 3 t_law_hand
/- _law_draw: 0 hand 1 many 2 cell 3 digit 4 number -/
def t_law_draw : SS := (sSeq (sIf (cAnd (tst (eBin dEq (eIxo 0 (eC (.int 2))) (eC (.int 0)))) (tst (eBin dLt (eIxo 0 (eC (.int 1))) (eCall dLen (aCons (eIxo 0 (eC (.int 0))) aNil))))) (sSeq (sSet 2 (eBin dIx (eIxo 0 (eC (.int 0))) (eIxo 0 (eC (.int 1)))))
    (sSeq (sPut 0 (eC (.int 1)) (eBin dAdd (eIxo 0 (eC (.int 1))) (eC (.int 1))))
    (sSeq (sPut 0 (eC (.int 3)) (eBin dMod (eCall dInt (aCons (eBin dAdd (eBin dAdd (eBin dMul (eIxo 0 (eC (.int 3))) (eC (.int 69621))) (eBin dMul (eNm 2) (eC (.int 40692)))) (eC (.int 31))) aNil)) (eC (.int 2147483629))))
    (sIf (tst (eBin dGe (eNm 2) (eBin dPow (eC (.int 10)) (eC (.int 18))))) (sPut 0 (eC (.int 2)) (eNm 2)) sNext)))) sNext)
    (sSeq (sIf (tst (eBin dGt (eIxo 0 (eC (.int 2))) (eC (.int 0)))) (sSeq (sSet 3 (eBin dMod (eCall dInt (aCons (eIxo 0 (eC (.int 2))) aNil)) (eNm 1)))
    (sSeq (sPut 0 (eC (.int 2)) (eBin dDiv (eIxo 0 (eC (.int 2))) (eNm 1)))
    (sRet (eNm 3)))) sNext)
    (sSeq (sPut 0 (eC (.int 4)) (eBin dAdd (eIxo 0 (eC (.int 4))) (eC (.int 1))))
    (sSeq (sSet 4 (eBin dMod (eCall dInt (aCons (eBin dMul (eCall dInt (aCons (eBin dAdd (eIxo 0 (eC (.int 3))) (eBin dMul (eC (.int 7919)) (eIxo 0 (eC (.int 4))))) aNil)) (eC (.int 48271))) aNil)) (eC (.int 2147483647))))
    (sSeq (sSet 4 (eBin dMod (eCall dInt (aCons (eBin dMul (eNm 4) (eBin dAdd (eBin dDiv (eNm 4) (eC (.int 1009))) (eC (.int 69621)))) aNil)) (eC (.int 2147483647))))
    (sSeq (sSet 4 (eBin dMod (eCall dInt (aCons (eBin dMul (eNm 4) (eBin dAdd (eBin dDiv (eNm 4) (eC (.int 2003))) (eC (.int 40014)))) aNil)) (eC (.int 2147483563))))
    (sRet (eBin dMod (eCall dInt (aCons (eBin dDiv (eNm 4) (eC (.int 16))) aNil)) (eNm 1)))))))))
def m_law_draw : List D → List D → Option (D × List D) := mH 2 5 t_law_draw
/- _law_some: 0 hand 1 things -/
def t_law_some : SS := (sRet (eBin dIx (eNm 1) (eCallH 0 m_law_draw (aCons (eCall dLen (aCons (eNm 1) aNil)) aNil))))
def m_law_some : List D → List D → Option (D × List D) := mH 2 2 t_law_some
/- _law_divisor: 0 one 1 other -/
def b_law_divisor_1 : SS := (sPar 0 1 (aCons (eNm 1) (aCons (eBin dMod (eCall dInt (aCons (eNm 0) aNil)) (eNm 1)) aNil)))
def w_law_divisor_1 : SS := sWhile (tst (eBin dNe (eNm 1) (eC (.int 0)))) b_law_divisor_1
def t_law_divisor : SS := (sSeq w_law_divisor_1
    (sRet (eNm 0)))
def m_law_divisor : List D → Option D := mD 2 2 t_law_divisor
/- _law_fraction: 0 top 1 bottom 2 shared -/
def t_law_fraction : SS := (sSeq (sSet 2 (eCall m_law_divisor (aCons (eCall dAbs (aCons (eNm 0) aNil)) (aCons (eNm 1) aNil))))
    (sRet (eTup (aCons (eBin dDiv (eNm 0) (eNm 2)) (aCons (eBin dDiv (eNm 1) (eNm 2)) aNil)))))
def m_law_fraction : List D → Option D := mD 2 3 t_law_fraction
/- _law_made: 0 p 1 q 2 k 3 first 4 length 5 row 6 day -/
def b_law_made_1 : SS := (sSet 5 (eBin dAdd (eNm 5) (eCall dStr (aCons (eBin dSub (eBin dDiv (eBin dAdd (eBin dMul (eNm 0) (eBin dAdd (eNm 6) (eC (.int 1)))) (eNm 2)) (eNm 1)) (eBin dDiv (eBin dAdd (eBin dMul (eNm 0) (eNm 6)) (eNm 2)) (eNm 1))) aNil))))
def w_law_made_1 : SS := sFor (iRg2 (aCons (eNm 3) (aCons (eBin dAdd (eNm 3) (eNm 4)) aNil))) (gNm 6) b_law_made_1
def t_law_made : SS := (sSeq (sSet 5 (eC (.str "")))
    (sSeq w_law_made_1
    (sRet (eNm 5))))
def m_law_made : List D → Option D := mD 5 7 t_law_made
/- _law_is: 0 told 1 due -/
def t_law_is : SS := (sRet (eBin dEq (eCall dRepr (aCons (eNm 0) aNil)) (eCall dRepr (aCons (eNm 1) aNil))))
def m_law_is : List D → Option D := mD 2 2 t_law_is
/- _law_form: 0 hand 1 most 2 q 3 p 4 by -/
def t_law_form : SS := (sSeq (sSet 2 (eBin dAdd (eC (.int 1)) (eCallH 0 m_law_draw (aCons (eCallH 0 m_law_some (aCons (eOf (fLst (aCons (eC (.int 6)) (aCons (eC (.int 30)) (aCons (eNm 1) aNil))))) aNil)) aNil))))
    (sSeq (sSet 3 (eCallH 0 m_law_draw (aCons (eBin dAdd (eNm 2) (eC (.int 1))) aNil)))
    (sSeq (sSet 4 (eCall m_law_divisor (aCons (eNm 3) (aCons (eNm 2) aNil))))
    (sSeq (sPar 3 2 (aCons (eBin dDiv (eNm 3) (eNm 4)) (aCons (eBin dDiv (eNm 2) (eNm 4)) aNil)))
    (sRet (eTup (aCons (eNm 3) (aCons (eNm 2) (aCons (eCallH 0 m_law_draw (aCons (eNm 2) aNil)) aNil)))))))))
def m_law_form : List D → List D → Option (D × List D) := mH 2 5 t_law_form
/- _law_rule: 0 hand 1 form 2 p 3 q 4 k 5 more -/
def t_law_rule : SS := (sSeq (sAsg (eNm 1) (gTupD 3 (gsCons (gNm 2) (gsCons (gNm 3) (gsCons (gNm 4) gsNil)))))
    (sSeq (sSet 5 (eIf (tst (eBin dLe (eBin dMul (eC (.int 3)) (eNm 3)) (eBin dPow (eC (.int 10)) (eC (.int 4))))) (eCallH 0 m_law_some (aCons (eOf (fLst (aCons (eC (.int 0)) (aCons (eC (.int 0)) (aCons (eC (.int 1)) (aCons (eC (.int 2)) aNil)))))) aNil)) (eC (.int 0))))
    (sRet (eTup (aCons (eTup (aCons (eNm 2) (aCons (eNm 3) aNil))) (aCons (eCall m_law_fraction (aCons (eBin dAdd (eBin dMul (eC (.int 3)) (eNm 4)) (eNm 5)) (aCons (eBin dMul (eC (.int 3)) (eNm 3)) aNil))) aNil))))))
def m_law_rule : List D → List D → Option (D × List D) := mH 2 6 t_law_rule
/- _law_derived: 0 form 1 p 2 q 3 k 4 d 5 c 6 top 7 by 8 bottom -/
def t_law_derived : SS := (sSeq (sAsg (eNm 0) (gTupD 3 (gsCons (gNm 1) (gsCons (gNm 2) (gsCons (gNm 3) gsNil)))))
    (sSeq (sPar 4 5 (aCons (eBin dDiv (eNm 2) (eNm 1)) (aCons (eBin dSub (eBin dSub (eNm 2) (eNm 3)) (eC (.int 1))) aNil)))
    (sSeq (sPar 6 7 (aCons (eBin dSub (eNm 2) (eBin dMul (eNm 4) (eNm 1))) (aCons (eCall m_law_divisor (aCons (eBin dSub (eNm 2) (eBin dMul (eNm 4) (eNm 1))) (aCons (eNm 1) aNil))) aNil)))
    (sSeq (sSet 8 (eBin dDiv (eNm 1) (eNm 7)))
    (sRet (eTup (aCons (eTup (aCons (eBin dDiv (eNm 6) (eNm 7)) (aCons (eNm 8) (aCons (eBin dDiv (eBin dMul (eBin dSub (eNm 5) (eBin dMul (eNm 1) (eBin dDiv (eNm 5) (eNm 1)))) (eNm 8)) (eNm 1)) aNil)))) (aCons (eNm 4) aNil))))))))
def m_law_derived : List D → Option D := mD 1 9 t_law_derived
/- _law_are_distances_right: 0 hand 1 form 2 rule 3 other 4 d 5 first 6 days 7 signs 8 some 9 far 10 at 11 sooner 12 later -/
def q_law_are_distances_right_1 : SF := fComp (iZp (aCons (eNm 6) (aCons (eSl dSl (eNm 6) (oSome (eNm 8)) oNone) aNil))) (gTupD 2 (gsCons (gNm 11) (gsCons (gNm 12) gsNil))) cYes (eBin dSub (eNm 12) (eNm 11)) [11, 12]
def q_law_are_distances_right_2 : SF := fComp (iZp (aCons (eNm 6) (aCons (eSl dSl (eNm 6) (oSome (eC (.int 1))) oNone) aNil))) (gTupD 2 (gsCons (gNm 11) (gsCons (gNm 12) gsNil))) cYes (eCall dStr (aCons (eBin dSub (eBin dSub (eNm 12) (eNm 11)) (eNm 4)) aNil)) [11, 12]
def q_law_are_distances_right_3 : SF := fComp (iRg1 (aCons (eC (.int 31)) aNil)) (gNm 10) cYes (eCall m_nth_duty (aCons (eNm 2) (aCons (eBin dAdd (eNm 5) (eNm 10)) aNil))) [10]
def b_law_are_distances_right_1 : SS := (sSeq (sSet 6 (eOf q_law_are_distances_right_3))
    (sSeq (sSet 7 (eMeth dJoin (eC (.str "")) (aCons (eOf q_law_are_distances_right_2) aNil)))
    (sSeq (sIf (tst (eBin dNe (eNm 7) (eCall m_made (aCons (eCall m_rule_of (aCons (eNm 3) aNil)) (aCons (eNm 5) (aCons (eC (.int 30)) aNil)))))) (sRet (eC (.bool false))) sNext)
    (sSeq (sSet 8 (eBin dAdd (eC (.int 1)) (eCallH 0 m_law_draw (aCons (eC (.int 20)) aNil))))
    (sSeq (sSet 9 (eOf q_law_are_distances_right_1))
    (sIf (cOr (tst (eBin dGt (eBin dSub (eCall dMax (aCons (eNm 9) aNil)) (eCall dMin (aCons (eNm 9) aNil))) (eC (.int 1)))) (tst (eBin dLt (eCall dMin (aCons (eNm 9) aNil)) (eBin dDiv (eBin dMul (eNm 8) (eBin dIx (eNm 1) (eC (.int 1)))) (eBin dIx (eNm 1) (eC (.int 0))))))) (sRet (eC (.bool false))) sNext))))))
def w_law_are_distances_right_1 : SS := sFor (iAny (eTup (aCons (eC (.int 0)) (aCons (eCallH 0 m_law_draw (aCons (eC (.int 1000)) aNil)) (aCons (eCallH 0 m_law_draw (aCons (eBin dPow (eC (.int 10)) (eC (.int 11))) aNil)) aNil))))) (gNm 5) b_law_are_distances_right_1
def t_law_are_distances_right : SS := (sSeq (sSet 2 (eCallH 0 m_law_rule (aCons (eNm 1) aNil)))
    (sSeq (sAsg (eCall m_law_derived (aCons (eNm 1) aNil)) (gTupD 2 (gsCons (gNm 3) (gsCons (gNm 4) gsNil))))
    (sSeq w_law_are_distances_right_1
    (sRet (eC (.bool true))))))
def m_law_are_distances_right : List D → List D → Option (D × List D) := mH 2 13 t_law_are_distances_right
/- _law_is_round_right: 0 form 1 p 2 q 3 k 4 first 5 row 6 other 7 d 8 told 9 numbers 10 here 11 word 12 stages 13 sign 14 one -/
def q_law_is_round_right_1 : SF := fComp (iAny (eNm 12)) (gNm 14) cYes (eBin dIx (eNm 14) (eC (.int 1))) [14]
def b_law_is_round_right_1 : SS := (sSeq (sApp 9 (eBin dDiv (eBin dIx (eNm 10) (eC (.int 1))) (eBin dIx (eNm 10) (eC (.int 0)))))
    (sSet 10 (eTup (aCons (eBin dSub (eBin dIx (eNm 10) (eC (.int 1))) (eBin dMul (eIxo 9 (eUn dNeg (eC (.int 1)))) (eBin dIx (eNm 10) (eC (.int 0))))) (aCons (eBin dIx (eNm 10) (eC (.int 0))) aNil)))))
def w_law_is_round_right_1 : SS := sWhile (tst (eBin dGt (eBin dIx (eNm 10) (eC (.int 0))) (eC (.int 0)))) b_law_is_round_right_1
def q_law_is_round_right_2 : SF := fComp (iAny (eBin dIx (eNm 8) (eC (.int 0)))) (gNm 13) cYes (eBin dAdd (eNm 7) (eCall dInt (aCons (eNm 13) aNil))) [13]
def t_law_is_round_right : SS := (sSeq (sAsg (eNm 0) (gTupD 3 (gsCons (gNm 1) (gsCons (gNm 2) (gsCons (gNm 3) gsNil)))))
    (sSeq (sSet 4 (eBin dDiv (eBin dSub (eBin dSub (eNm 2) (eNm 3)) (eC (.int 1))) (eNm 1)))
    (sSeq (sSet 5 (eCall m_law_made (aCons (eNm 1) (aCons (eNm 2) (aCons (eNm 3) (aCons (eNm 4) (aCons (eNm 2) aNil)))))))
    (sSeq (sAsg (eCall m_law_derived (aCons (eNm 0) aNil)) (gTupD 2 (gsCons (gNm 6) (gsCons (gNm 7) gsNil))))
    (sSeq (sSet 8 (eCall m_derived (aCons (eNm 5) aNil)))
    (sSeq (sIf (tst (eBin dNe (eNm 8) (eTup (aCons (eCall m_made (aCons (eCall m_rule_of (aCons (eNm 6) aNil)) (aCons (eC (.int 0)) (aCons (eNm 1) aNil)))) (aCons (eNm 7) aNil))))) (sRet (eC (.bool false))) sNext)
    (sSeq (sIf (tst (eBin dNe (eCall m_gaps_of (aCons (eNm 5) aNil)) (eCall dTuple (aCons (eOf q_law_is_round_right_2) aNil)))) (sRet (eC (.bool false))) sNext)
    (sSeq (sParM [9, 10] (mCL (fLst aNil) (mCD (eTup (aCons (eNm 1) (aCons (eNm 2) aNil))) mNil)))
    (sSeq w_law_is_round_right_1
    (sSeq (sAsg (eCall m_ladder (aCons (eNm 5) aNil)) (gTupD 2 (gsCons (gNm 11) (gsCons (gNm 12) gsNil))))
    (sRet (eAnd (eBin dEq (eNm 11) (eC (.str "even"))) (eBin dEq (eOf q_law_is_round_right_1) (eBin dAdd (eNm 9) (eOf (fLst (aCons (eC .none) aNil)))))))))))))))))
def m_law_is_round_right : List D → Option D := mD 1 15 t_law_is_round_right
/- law: 0 script 1 hand 2 turn 3 form 4 rule 5 at -/
def b_law_1 : SS := (sSeq (sSet 3 (eCallH 1 m_law_form (aCons (eCallH 1 m_law_some (aCons (eOf (fLst (aCons (eC (.int 60)) (aCons (eC (.int 500)) (aCons (eC (.int 3000)) aNil))))) aNil)) aNil)))
    (sSeq (sIf (tst (eBin dEq (eBin dIx (eNm 3) (eC (.int 0))) (eC (.int 0)))) (sSet 3 (eTup (aCons (eC (.int 1)) (aCons (eBin dAdd (eBin dIx (eNm 3) (eC (.int 1))) (eC (.int 1))) (aCons (eC (.int 0)) aNil))))) sNext)
    (sSeq (sIf (cNot (tst (eCallH 1 m_law_are_distances_right (aCons (eNm 3) aNil)))) (sRet (eC (.bool false))) sNext)
    (sSeq (sIf (cAnd (tst (eBin dLt (eBin dIx (eNm 3) (eC (.int 1))) (eC (.int 501)))) (cNot (tst (eCall m_law_is_round_right (aCons (eNm 3) aNil))))) (sRet (eC (.bool false))) sNext)
    (sSeq (sSet 4 (eCall m_rule_of (aCons (eNm 3) aNil)))
    (sIf (cNot (tst (eCall m_law_is (aCons (eOf (fLst (aCons (eCall m_normal (aCons (eNm 4) aNil)) (aCons (eCall m_parts_at (aCons (eNm 4) (aCons (eCallH 1 m_law_rule (aCons (eNm 3) aNil)) aNil))) aNil)))) (aCons (eOf (fLst (aCons (eNm 3) (aCons (eC .none) aNil)))) aNil))))) (sRet (eC (.bool false))) sNext))))))
def w_law_1 : SS := sFor (iRg1 (aCons (eC (.int 5)) aNil)) (gNm 2) b_law_1
def q_law_1 : SF := fComp (iRg1 (aCons (eC (.int 4)) aNil)) (gNm 5) cYes (eCall m_nth_duty (aCons (eTup (aCons (eTup (aCons (eC (.int 2)) (aCons (eC (.int 5)) aNil))) (aCons (eTup (aCons (eC (.int 2)) (aCons (eC (.int 5)) aNil))) aNil))) (aCons (eNm 5) aNil))) [5]
def t_law : SS := (sSeq (sOwn 1 (fCall m_law_hand (aCons (eNm 0) aNil)))
    (sSeq (sIf (cOr (tst (eBin dNe (eCall m_law_derived (aCons (eTup (aCons (eC (.int 2)) (aCons (eC (.int 5)) (aCons (eC (.int 2)) aNil)))) aNil)) (eTup (aCons (eTup (aCons (eC (.int 1)) (aCons (eC (.int 2)) (aCons (eC (.int 0)) aNil)))) (aCons (eC (.int 2)) aNil))))) (tst (eBin dNe (eOf q_law_1) (eOf (fLst (aCons (eC (.int 1)) (aCons (eC (.int 3)) (aCons (eC (.int 6)) (aCons (eC (.int 8)) aNil))))))))) (sRet (eC (.bool false))) sNext)
    (sSeq w_law_1
    (sRet (eC (.bool true))))))
def m_law : List D → Option D := mD 1 6 t_law
end W

/-! plain mathematics of stairs: no program in sight -/
namespace N
def sumF (F : Nat → Int) (n : Nat) : Int := ((List.range n).map F).sum
theorem sumF_zero (F : Nat → Int) : sumF F 0 = 0 := rfl
theorem sumF_succ (F : Nat → Int) (n : Nat) : sumF F (n + 1) = sumF F n + F n := by
  unfold sumF
  rw [List.range_succ, List.map_append, List.sum_append]
  simp
theorem sumF_add (F : Nat → Int) (a b : Nat) : sumF F (a + b) = sumF F a + sumF (fun i => F (a + i)) b := by
  induction b with
  | zero => simp [sumF_zero]
  | succ b ih => rw [Nat.add_succ, sumF_succ, ih, sumF_succ, Int.add_assoc]
theorem sumF_congr {F G : Nat → Int} {n : Nat} (h : ∀ i, i < n → F i = G i) : sumF F n = sumF G n := by
  unfold sumF
  rw [List.map_congr_left fun i hi => h i (List.mem_range.mp hi)]
theorem sumF_plus (F G : Nat → Int) (n : Nat) : sumF (fun i => F i + G i) n = sumF F n + sumF G n := by
  induction n with
  | zero => rfl
  | succ n ih => rw [sumF_succ, sumF_succ, sumF_succ, ih]; omega
theorem sumF_mul (c : Int) (F : Nat → Int) (n : Nat) : sumF (fun i => c * F i) n = c * sumF F n := by
  induction n with
  | zero => rw [sumF_zero, sumF_zero, Int.mul_zero]
  | succ n ih => rw [sumF_succ, sumF_succ, ih, Int.mul_add]
theorem sumF_const (c : Int) (n : Nat) : sumF (fun _ => c) n = n * c := by
  induction n with
  | zero => rw [sumF_zero]; simp
  | succ n ih => rw [sumF_succ, ih, Int.natCast_succ, Int.add_mul, Int.one_mul]
theorem sumF_id (n : Nat) : 2 * sumF (fun i => (i : Int)) n = n * (n - 1) := by
  induction n with
  | zero => rfl
  | succ n ih =>
    rw [sumF_succ, Int.mul_add, ih, Int.natCast_succ, Int.add_sub_cancel, Int.mul_sub, Int.add_mul, Int.mul_one, Int.one_mul]
    omega
theorem small_len : ∀ (n : Nat) (l : List Nat), l.Nodup → (∀ x ∈ l, x < n) → l.length ≤ n
  | 0, l, _, h => by
    cases l with
    | nil => exact Nat.le_refl _
    | cons a r => exact absurd (h a List.mem_cons_self) (Nat.not_lt_zero _)
  | n + 1, l, hn, h => by
    by_cases hm : n ∈ l
    · have h1 := small_len n (l.erase n) (hn.erase n) fun x hx => by
        have h2 := h x (List.mem_of_mem_erase hx)
        have h3 : x ≠ n := fun e => by subst e; exact (List.Nodup.not_mem_erase hn) hx
        omega
      rw [List.length_erase_of_mem hm] at h1
      omega
    · have h1 := small_len n l hn fun x hx => by
        have h2 := h x hx
        have h3 : x ≠ n := fun e => by subst e; exact hm hx
        omega
      omega
theorem small_sum : ∀ (n : Nat) (l : List Nat), l.Nodup → (∀ x ∈ l, x < n) → l.length = n → 2 * l.sum + n = n * n
  | 0, l, _, _, h => by
    cases l with
    | nil => rfl
    | cons a r => simp at h
  | n + 1, l, hn, h, hl => by
    have hm : n ∈ l := Classical.byContradiction fun hm => by
      have h1 := small_len n l hn fun x hx => by
        have h2 := h x hx
        have h3 : x ≠ n := fun e => by subst e; exact hm hx
        omega
      omega
    have h1 := small_sum n (l.erase n) (hn.erase n) (fun x hx => by
        have h2 := h x (List.mem_of_mem_erase hx)
        have h3 : x ≠ n := fun e => by subst e; exact (List.Nodup.not_mem_erase hn) hx
        omega) (by rw [List.length_erase_of_mem hm]; omega)
    have h2 := (List.perm_cons_erase hm).sum_nat
    rw [List.sum_cons] at h2
    rw [h2, Nat.mul_add, Nat.add_mul, Nat.mul_add n n 1]
    omega
/-- the stair of p over q from k -/
def St (p q k : Int) (n : Nat) : Int := (n * p + k) / q
theorem cop {p q : Int} (hg : Int.gcd p q = 1) {i j : Int} (h : q ∣ (i - j) * p) : q ∣ i - j := by
  have h1 : q.natAbs ∣ (i - j).natAbs * p.natAbs := by rw [← Int.natAbs_mul]; exact Int.natAbs_dvd_natAbs.mpr h
  have h2 : Nat.Coprime q.natAbs p.natAbs := by rw [Nat.Coprime, Nat.gcd_comm]; exact hg
  exact Int.natAbs_dvd_natAbs.mp (h2.dvd_of_dvd_mul_right h1)
theorem res_inj {p k : Int} {n : Nat} (hg : Int.gcd p n = 1) {i j : Nat} (hi : i < n) (hj : j < n) (h : ((i : Int) * p + k) % n = ((j : Int) * p + k) % n) : i = j := by
  have h1 : (n : Int) ∣ (((i : Int) * p + k) - ((j : Int) * p + k)) := Int.dvd_of_emod_eq_zero (Int.emod_eq_emod_iff_emod_sub_eq_zero.mp h)
  have h2 : ((i : Int) * p + k) - ((j : Int) * p + k) = ((i : Int) - j) * p := by rw [Int.sub_mul]; omega
  rw [h2] at h1
  obtain ⟨c, hc⟩ := cop hg h1
  have h3 : c = 0 := by
    refine Classical.byContradiction fun h3 => ?_
    by_cases h4 : 0 < c
    · have := Int.mul_le_mul_of_nonneg_left (show 1 ≤ c by omega) (show (0 : Int) ≤ n by omega)
      omega
    · have := Int.mul_le_mul_of_nonneg_left (show c ≤ -1 by omega) (show (0 : Int) ≤ n by omega)
      omega
  subst h3
  omega
theorem res_sum {p k : Int} {n : Nat} (hn : 0 < n) (hg : Int.gcd p n = 1) : 2 * sumF (fun i => ((i : Int) * p + k) % n) n = n * (n - 1) := by
  have e : ∀ m : Nat, sumF (fun i => ((i : Int) * p + k) % n) m = (((List.range m).map fun i : Nat => (((i : Int) * p + k) % n).toNat).sum : Nat) := by
    intro m
    induction m with
    | zero => rfl
    | succ m ih =>
      rw [sumF_succ, ih, List.range_succ, List.map_append, List.sum_append_nat]
      have := Int.emod_nonneg ((m : Int) * p + k) (show (n : Int) ≠ 0 by omega)
      simp
      omega
  have h1 := small_sum n ((List.range n).map fun i : Nat => (((i : Int) * p + k) % n).toNat) (by
    refine List.pairwise_map.mpr ?_
    refine List.Pairwise.imp_of_mem ?_ (List.nodup_range (n := n))
    intro a b ha hb hab h2
    have h3 := Int.emod_nonneg ((a : Int) * p + k) (show (n : Int) ≠ 0 by omega)
    have h4 := Int.emod_nonneg ((b : Int) * p + k) (show (n : Int) ≠ 0 by omega)
    exact hab (res_inj (k := k) hg (List.mem_range.mp ha) (List.mem_range.mp hb) (by omega))) (by
    intro x hx
    obtain ⟨i, _, rfl⟩ := List.mem_map.mp hx
    have h3 := Int.emod_nonneg ((i : Int) * p + k) (show (n : Int) ≠ 0 by omega)
    have h4 := Int.emod_lt_of_pos ((i : Int) * p + k) (show (0 : Int) < n by omega)
    omega) (by rw [List.length_map, List.length_range])
  rw [e]
  generalize ((List.range n).map fun i : Nat => (((i : Int) * p + k) % n).toNat).sum = s at h1 ⊢
  have h5 : (2 * (s : Int) + n) = (n : Int) * n := by exact_mod_cast h1
  rw [Int.mul_sub]
  omega
theorem St_sum {p k : Int} {n : Nat} (hn : 0 < n) (hg : Int.gcd p n = 1) : 2 * sumF (St p n k) n = (p - 1) * (n - 1) + 2 * k := by
  have h1 : sumF (fun i => (i : Int) * p + k) n = n * sumF (St p n k) n + sumF (fun i => ((i : Int) * p + k) % n) n := by
    rw [← sumF_mul, ← sumF_plus]
    refine sumF_congr fun i _ => ?_
    exact (Int.mul_ediv_add_emod _ _).symm
  have h2 : sumF (fun i => (i : Int) * p + k) n = p * sumF (fun i => (i : Int)) n + n * k := by
    rw [← sumF_mul, ← sumF_const, ← sumF_plus]
    exact sumF_congr fun i _ => by rw [Int.mul_comm]
  have h3 := sumF_id n
  have h4 := res_sum (k := k) hn hg
  have h5 : (n : Int) * (2 * sumF (St p n k) n) = n * ((p - 1) * (n - 1) + 2 * k) := by
    have e1 : (n : Int) * (2 * sumF (St p n k) n) = 2 * (n * sumF (St p n k) n) := Int.mul_left_comm _ _ _
    have e2 : 2 * (p * sumF (fun i => (i : Int)) n) = p * (n * (n - 1)) := by rw [Int.mul_left_comm, h3]
    have e3 : (n : Int) * ((p - 1) * (n - 1) + 2 * k) = p * (n * (n - 1)) - n * (n - 1) + 2 * (n * k) := by
      rw [Int.mul_add, Int.sub_mul, Int.mul_sub, Int.one_mul, Int.mul_left_comm (n : Int) p, Int.mul_left_comm (n : Int) 2 k]
    rw [e1, e3]
    omega
  exact Int.eq_of_mul_eq_mul_left (by omega) h5
theorem St_base {p k : Int} {n : Nat} (hn : 0 < n) (hg : Int.gcd p n = 1) : sumF (St p n k) n = (p - 1) * (n - 1) / 2 + k := by
  have := St_sum (k := k) hn hg
  omega
theorem St_shift {p q k : Int} (hq : 0 < q) (i : Nat) {n : Nat} (h : q = n) (m : Nat) : St p q k (m * n + i) = m * p + St p q k i := by
  unfold St
  have : ((m * n + i : Nat) : Int) * p + k = (i * p + k) + q * (m * p) := by
    rw [h, Int.natCast_add, Int.natCast_mul, Int.add_mul, Int.mul_comm (m : Int) n, Int.mul_assoc]; omega
  rw [this, Int.add_mul_ediv_left _ _ (by omega)]
  omega
theorem St_rounds {p k : Int} {n : Nat} (hn : 0 < n) (m : Nat) : 2 * sumF (St p n k) (m * n) = 2 * (m * sumF (St p n k) n) + p * n * m * (m - 1) := by
  induction m with
  | zero => simp [sumF_zero]
  | succ m ih =>
    rw [Nat.succ_mul, sumF_add, Int.mul_add, ih]
    have h1 : sumF (fun i => St p n k (m * n + i)) n = n * (m * p) + sumF (St p n k) n := by
      rw [← sumF_const, ← sumF_plus]
      exact sumF_congr fun i _ => St_shift (by omega) i rfl m
    rw [h1]
    have e1 : (((m + 1 : Nat) : Int) * sumF (St p n k) n) = m * sumF (St p n k) n + sumF (St p n k) n := by rw [Int.natCast_succ, Int.add_mul, Int.one_mul]
    have e2 : p * n * ((m + 1 : Nat) : Int) * (((m + 1 : Nat) : Int) - 1) = p * n * m * (m - 1) + 2 * (n * (m * p)) := by
      have e3 : (((m + 1 : Nat) : Int) - 1) = m := by omega
      have e4 : p * n * m * m = p * n * m * (m - 1) + p * n * m := by rw [Int.mul_sub, Int.mul_one]; omega
      have e5 : (n : Int) * (m * p) = p * n * m := by rw [Int.mul_comm (m : Int) p, ← Int.mul_assoc, Int.mul_comm (n : Int) p]
      have e6 : p * n * ((m : Int) + 1) * m = p * n * m * m + p * n * m := by rw [Int.mul_add, Int.mul_one, Int.add_mul]
      rw [e3, Int.natCast_succ, e6, e4, e5]; omega
    rw [e1, e2]
    omega
theorem St_step {p q k : Int} (hq : 0 < q) (p0 : 0 ≤ p) (pq : p ≤ q) (n : Nat) : St p q k (n + 1) = St p q k n ∨ St p q k (n + 1) = St p q k n + 1 := by
  unfold St
  have e : ((n + 1 : Nat) : Int) * p + k = (n * p + k) + p := by rw [Int.natCast_succ, Int.add_mul, Int.one_mul]; omega
  rw [e]
  generalize (n : Int) * p + k = x
  have h1 := Int.emod_nonneg x (show q ≠ 0 by omega)
  have h2 := Int.emod_lt_of_pos x hq
  have h3 := Int.mul_ediv_add_emod x q
  by_cases h : x % q + p < q
  · left
    have : x + p = (x % q + p) + q * (x / q) := by omega
    have z : (x % q + p) / q = 0 := Int.ediv_eq_zero_of_lt (by omega) h
    rw [this, Int.add_mul_ediv_left _ _ (by omega), z]
    omega
  · right
    have : x + p = (x % q + p - q) + q * (x / q + 1) := by rw [Int.mul_add, Int.mul_one]; omega
    have z : (x % q + p - q) / q = 0 := Int.ediv_eq_zero_of_lt (by omega) (by omega)
    rw [this, Int.add_mul_ediv_left _ _ (by omega), z]
    omega
theorem St_zero {p q k : Int} (k0 : 0 ≤ k) (kq : k < q) : St p q k 0 = 0 := by
  unfold St
  rw [show ((0 : Nat) : Int) * p + k = k by simp]
  exact Int.ediv_eq_zero_of_lt k0 kq
/-- a day of duty by its residue -/
theorem St_duty {p q k : Int} (hq : 0 < q) (p0 : 0 ≤ p) (pq : p ≤ q) (n : Nat) : St p q k n < St p q k (n + 1) ↔ q ≤ (n * p + k) % q + p := by
  unfold St
  have e : ((n + 1 : Nat) : Int) * p + k = (n * p + k) + p := by rw [Int.natCast_succ, Int.add_mul, Int.one_mul]; omega
  rw [e]
  generalize (n : Int) * p + k = x
  have h1 := Int.emod_nonneg x (show q ≠ 0 by omega)
  have h2 := Int.emod_lt_of_pos x hq
  have h3 := Int.mul_ediv_add_emod x q
  by_cases h : x % q + p < q
  · have : x + p = (x % q + p) + q * (x / q) := by omega
    have z : (x % q + p) / q = 0 := Int.ediv_eq_zero_of_lt (by omega) h
    rw [this, Int.add_mul_ediv_left _ _ (by omega), z]
    omega
  · have : x + p = (x % q + p - q) + q * (x / q + 1) := by rw [Int.mul_add, Int.mul_one]; omega
    have z : (x % q + p - q) / q = 0 := Int.ediv_eq_zero_of_lt (by omega) (by omega)
    rw [this, Int.add_mul_ediv_left _ _ (by omega), z]
    omega
/-- the sum of the days of duty -/
theorem days_sum {F : Nat → Int} (n : Nat) : sumF (fun i => (i : Int) * (F (i + 1) - F i)) n = n * F n - F n - sumF F n + F 0 := by
  induction n with
  | zero => simp [sumF_zero]; omega
  | succ n ih =>
    rw [sumF_succ, sumF_succ, ih, Int.natCast_succ, Int.mul_sub, Int.add_mul, Int.one_mul]
    omega
/-- the sum over duties of their days -/
theorem nth_sum {F : Nat → Int} {nth : Int → Int} (h0 : F 0 = 0) (hs : ∀ n, F (n + 1) = F n ∨ F (n + 1) = F n + 1) (hm : ∀ n, 0 ≤ F n) (n : Nat) (hn : ∀ i : Nat, i < n → F (i + 1) = F i + 1 → nth (F i) = i) : ((List.range (F n).toNat).map fun j : Nat => nth j).sum = sumF (fun i => (i : Int) * (F (i + 1) - F i)) n := by
  induction n with
  | zero => rw [h0]; rfl
  | succ n ih =>
    have ih' := ih fun i hi => hn i (by omega)
    rw [sumF_succ, ← ih']
    rcases hs n with h | h
    · rw [h]; simp
    · have h1 := hm n
      rw [h, show (F n + 1).toNat = (F n).toNat + 1 by omega, List.range_succ, List.map_append, List.sum_append]
      have h2 := hn n (by omega) h
      have h3 : (((F n).toNat : Nat) : Int) = F n := by omega
      simp only [List.map_cons, List.map_nil, List.sum_cons, List.sum_nil, h3, h2]
      rw [show F n + 1 - F n = 1 by omega]
      omega
end N

set_option maxHeartbeats 4000000
namespace W.S
open PySem PySem.Spec PyProof.Rows L2 PL
local macro_rules | `(tactic| walk_at "ev") => `(tactic| simp only [nm0, no0, svu0, svv0, svo0, sou0, sov0, soo0, st0, gt0, mo0, po0, la0, lv0, me0, pe0, le0, nm1, no1, svu1, svv1, svo1, sou1, sov1, soo1, st1, gt1, mo1, po1, la1, lv1, me1, pe1, le1, nm2, no2, svu2, svv2, svo2, sou2, sov2, soo2, st2, gt2, mo2, po2, la2, lv2, me2, pe2, le2, nm3, no3, svu3, svv3, svo3, sou3, sov3, soo3, st3, gt3, mo3, po3, la3, lv3, nm4, no4, svu4, svv4, svo4, sou4, sov4, soo4, st4, gt4, mo4, po4, la4, lv4, nm5, no5, svu5, svv5, svo5, sou5, sov5, soo5, st5, gt5, mo5, po5, la5, lv5, nm6, no6, svu6, svv6, svo6, sou6, sov6, soo6, st6, gt6, mo6, po6, la6, lv6, nm7, no7, svu7, svv7, svo7, sou7, sov7, soo7, st7, gt7, mo7, po7, la7, lv7, nm8, no8, svu8, svv8, svo8, sou8, sov8, soo8, st8, gt8, mo8, po8, la8, lv8, nm9, no9, svu9, svv9, svo9, sou9, sov9, soo9, st9, gt9, mo9, po9, la9, lv9, nm10, no10, svu10, svv10, svo10, sou10, sov10, soo10, st10, gt10, mo10, po10, la10, lv10, nm11, no11, svu11, svv11, svo11, sou11, sov11, soo11, st11, gt11, mo11, po11, la11, lv11, nm12, no12, svu12, svv12, svo12, sou12, sov12, soo12, st12, gt12, mo12, po12, la12, lv12, nm13, no13, svu13, svv13, svo13, sou13, sov13, soo13, st13, gt13, mo13, po13, la13, lv13, nm14, no14, svu14, svv14, svo14, sou14, sov14, soo14, st14, gt14, mo14, po14, la14, lv14, nm15, no15, svu15, svv15, svo15, sou15, sov15, soo15, st15, gt15, mo15, po15, la15, lv15, nm16, no16, svu16, svv16, svo16, sou16, sov16, soo16, st16, gt16, mo16, po16, la16, lv16, nm17, no17, svu17, svv17, svo17, sou17, sov17, soo17, st17, gt17, mo17, po17, la17, lv17, nm18, no18, svu18, svv18, svo18, sou18, sov18, soo18, st18, gt18, mo18, po18, la18, lv18, nm19, no19, svu19, svv19, svo19, sou19, sov19, soo19, st19, gt19, mo19, po19, la19, lv19, nm20, no20, svu20, svv20, svo20, sou20, sov20, soo20, st20, gt20, mo20, po20, la20, lv20, nm21, no21, svu21, svv21, svo21, sou21, sov21, soo21, st21, gt21, mo21, po21, la21, lv21, nm22, no22, svu22, svv22, svo22, sou22, sov22, soo22, st22, gt22, mo22, po22, la22, lv22, nm23, no23, svu23, svv23, svo23, sou23, sov23, soo23, st23, gt23, mo23, po23, la23, lv23, nm24, no24, svu24, svv24, svo24, sou24, sov24, soo24, st24, gt24, mo24, po24, la24, lv24, nm25, no25, svu25, svv25, svo25, sou25, sov25, soo25, st25, gt25, mo25, po25, la25, lv25, e_C, e_Seq, q_nx, q_rt, q_bk, q_ct, e_If, i_t, i_f, e_Next, e_RetN, e_Break, e_Cont, e_Ret, r_s, e_Expr, x_s, nx_s, e_Set, set_s, e_Own, own_s, e_Asg, asg_s, g_nm, g_tup, gs_nil, gs_cons, gsb_s, e_Par, par_s, par2_s, e_Par3, par3_s, e_Bin, bin_s, binC_s, binD_s, e_Un, un_s, e_Chain, ch_s, chC_s, chD_t, chD_f, e_And, and_t, and_f, e_Or, or_t, or_f, e_Not, not_s, e_IfE, ife_t, ife_f, e_Tst, tst_s, e_CAnd, e_COr, cand_t, cand_f, cor_t, cor_f, e_CNot, cnot_s, e_aN, e_aC, con_s, conC_s, e_Tup, tup_s, e_Lst, lst_s, e_Of, of_s, e_Call, call_s, callC_s, e_FCall, fcal_s, fcalC_s, e_Meth, mth_s, mthC_s, e_Sl, sl_s, slC_s, slD_s, e_oN, e_oS, o_s, e_Ixo, ixo_s, ixoA_s, ixoC_s, e_Leno, len_s, e_CallH, hcA_s, hcB_s, hcC_s, hcD_s, e_Isi, isi_int_int, isi_int_bool, isi_int_str, isi_int_list, isi_int_tuple, isi_bool_int, isi_bool_bool, isi_bool_str, isi_bool_list, isi_bool_tuple, isi_str_int, isi_str_bool, isi_str_str, isi_str_list, isi_str_tuple, isi_list_int, isi_list_bool, isi_list_str, isi_list_list, isi_list_tuple, isi_tuple_int, isi_tuple_bool, isi_tuple_str, isi_tuple_list, isi_tuple_tuple, isi_none_int, isi_none_bool, isi_none_str, isi_none_list, isi_none_tuple, e_Comp, cmp_s, cmpE_s, wp_n, wp_c, bk_n, bk_c, bks_v, bks_u, bks_o, nx_n, nx_c, nx1_v, nx1_u, nx1_o, e_For, for_s, e_iAny, any_l, any_t, any_s, e_iR1, e_iR2, e_iZp, e_iEn, rg1_s, rg2_s, zp_s, en_l, en_s, e_App, apA_s, apB_s, e_Put, ptA_s, ptB_s, ptC_s, ptD_s, d_add, d_adds, d_addl, d_muls, d_sub, d_mul, d_div, d_mod, d_neg, d_lt, d_lts, d_le, d_gt, d_ge, d_eqi, d_eqs, d_eqb, d_nei, d_nes, d_neb, d_isn, d_isnn, isN_n, isN_i, isN_b, isN_s, isN_l, isN_t, ix_t0, at_0, ix_t1, at_1, ix_t2, at_2, ix_t3, at_3, ix_t4, at_4, ix_l, c_lenl, c_lent, c_lens, c_abs, c_int, c_tupl, c_tupt, c_lst, c_lstt, c_max2, c_min2, s_list, s_tup, s_str, e_ParM, pm_s, e_mN, e_mD, md_s, mdC_s, e_mL, ml_s, mlC_s, sms_n, sms_d, sms_l, sm_s, e_Rev, rv_s, retO_rt, retO_nx, szA0, szA1, szA2, szA3, szA4, szA5, szA6, szB0, szB1, e_fSeq, fsq_s, e_fRet, fret_s, mk1, mk2, mk3, mk4, mk5, mk6, dk1, dk2, dk3, zk1, zk2, zk3, pk18, pk6, pk4, ix5_0, ix5_1, ix5_2, ix5_3, ix5_4, List.set_cons_zero, List.set_cons_succ, rtHO_rt, rtHO_nx, List.length_cons, List.length_nil, if_true, if_false, Bool.not_true, Bool.not_false, decide_true, decide_false, true_and, and_true, Bool.and_true, Bool.true_and, *])

/-! what the small functions say: the parts that all laws share -/
def fr (a b : Int) : D := .tuple [.int a, .int b]
theorem s_is_integer (i : Int) : m_is_integer [.int i] = some (.bool true) := by
  refine mD_ev rfl ?_
  show retO (t_is_integer [.val (.int i)]) = _
  unfold t_is_integer
  walk_at "ev"
theorem s_within (i a b : Int) (h1 : a ≤ i) (h2 : i ≤ b) : m_is_within [.int i, .int a, .int b] = some (.bool true) := by
  have h0 := s_is_integer i
  refine mD_ev rfl ?_
  show retO (t_is_within [.val (.int i), .val (.int a), .val (.int b)]) = _
  unfold t_is_within
  walk_at "ev"
theorem s_tuple_of (l : List D) (n : Int) : m_is_tuple_of [.tuple l, .int n] = some (.bool (decide ((l.length : Int) = n))) := by
  refine mD_ev rfl ?_
  show retO (t_is_tuple_of [.val (.tuple l), .val (.int n)]) = _
  unfold t_is_tuple_of
  walk_at "ev"
theorem s_pair (x y : D) : m_is_tuple_of [.tuple [x, y], .int 2] = some (.bool true) := s_tuple_of [x, y] 2
theorem s_three (x y z : D) : m_is_tuple_of [.tuple [x, y, z], .int 3] = some (.bool true) := s_tuple_of [x, y, z] 3
theorem s_common (a b : Int) (hb : b.natAbs < 2 ^ 64) : m_common [.int a, .int b] = some (.int (Int.gcd a b)) := by
  have h0 : ∀ c : Int, (if c < 0 then -c else c) = (c.natAbs : Int) := fun c => by split <;> omega
  obtain ⟨z, hw⟩ := gcd_loop (t := tst (eBin dGt (eNm 1) (eC (.int 0)))) (b := b_common_1)
    (fun x y hx hy => by walk_at "ev") (fun x y hx hy => by unfold b_common_1; walk_at "ev") a.natAbs b.natAbs (by omega) (by omega)
    (by rw [Int.natAbs_natCast]; exact Nat.lt_trans hb (by unfold fuel; decide))
  have e : Int.gcd (a.natAbs : Int) (b.natAbs : Int) = Int.gcd a b := by unfold Int.gcd; rw [Int.natAbs_natCast, Int.natAbs_natCast]
  rw [e] at hw
  replace hw : w_common_1 [.val (.int a.natAbs), .val (.int b.natAbs)] = _ := hw
  refine mD_ev rfl ?_
  show retO (t_common [.val (.int a), .val (.int b)]) = _
  unfold t_common
  walk_at "ev"
theorem s_divisor (a b : Int) (ha : 0 ≤ a) (hb0 : 0 ≤ b) (hb : b < 2 ^ 64) : m_law_divisor [.int a, .int b] = some (.int (Int.gcd a b)) := by
  obtain ⟨z, hw⟩ := gcd_loop (t := tst (eBin dNe (eNm 1) (eC (.int 0)))) (b := b_law_divisor_1)
    (fun x y hx hy => by
      have h : (!decide (y = 0)) = decide (0 < y) := by by_cases h : 0 < y <;> simp [h] <;> omega
      walk_at "ev") (fun x y hx hy => by unfold b_law_divisor_1; walk_at "ev") a b ha hb0 (Nat.lt_trans (show b.natAbs < 2 ^ 64 by omega) (by unfold fuel; decide))
  replace hw : w_law_divisor_1 [.val (.int a), .val (.int b)] = _ := hw
  refine mD_ev rfl ?_
  show retO (t_law_divisor [.val (.int a), .val (.int b)]) = _
  unfold t_law_divisor
  walk_at "ev"
theorem s_is_fraction (a b : Int) (h1 : 1 ≤ b) (h2 : b < 2 ^ 64) (hg : Int.gcd a b = 1) : m_is_fraction [fr a b] = some (.bool true) := by
  have ha := s_is_integer a
  have hb := s_is_integer b
  have hc := s_common a b (by omega)
  have ht := s_pair (.int a) (.int b)
  rw [hg] at hc
  replace hc : m_common [.int a, .int b] = some (.int 1) := hc
  unfold fr
  refine mD_ev rfl ?_
  show retO (t_is_fraction [.val (.tuple [.int a, .int b])]) = _
  unfold t_is_fraction
  walk_at "ev"
theorem s_frac (a b : Int) (h1 : 1 ≤ b) (h2 : b < 2 ^ 64) : m_frac [.int a, .int b] = some (fr (a / Int.gcd a b) (b / Int.gcd a b)) := by
  have hc := s_common a b (by omega)
  have hg : 0 < Int.gcd a b := Int.gcd_pos_of_ne_zero_right _ (by omega)
  have hg2 : (Int.gcd a b : Int) ≤ b := Int.le_of_dvd (by omega) (Int.gcd_dvd_right _ _)
  have hd : DivOk (Int.gcd a b : Int) := DivOk.s (by omega) (by omega)
  have hl : decide (b < 0) = false := decide_eq_false (by omega)
  refine mD_ev rfl ?_
  show retO (t_frac [.val (.int a), .val (.int b), .un]) = _
  unfold t_frac
  walk_at "ev"
  rfl
theorem s_less (a b c d : Int) (ha : -(2 ^ 64) < a ∧ a < 2 ^ 64) (hc : -(2 ^ 64) < c ∧ c < 2 ^ 64) : m_less [fr a b, fr c d] = some (.bool (decide (a * d < c * b))) := by
  have h1 : PL.MulOk a d := PL.MulOk.l ha.1 ha.2
  have h2 : PL.MulOk c b := PL.MulOk.l hc.1 hc.2
  unfold fr
  refine mD_ev rfl ?_
  show retO (t_less [.val (.tuple [.int a, .int b]), .val (.tuple [.int c, .int d])]) = _
  unfold t_less
  walk_at "ev"
/-- a rule's data -/
structure Ru (p q a b : Int) : Prop where
  p0 : 0 ≤ p
  pq : p ≤ q
  q1 : 1 ≤ q
  q2 : q ≤ 10000
  pg : Int.gcd p q = 1
  a0 : 0 ≤ a
  ab : a < b
  b2 : b ≤ 10000
  ag : Int.gcd a b = 1
def ru (p q a b : Int) : D := .tuple [fr p q, fr a b]
theorem s_is_rule {p q a b : Int} (h : Ru p q a b) : m_is_rule [ru p q a b] = some (.bool true) := by
  obtain ⟨p0, pq, q1, q2, pg, a0, ab, b2, ag⟩ := h
  have hl : m_is_line [ru p q a b] = some (.bool true) := by
    have ht := s_pair (fr p q) (fr a b)
    have f1 := s_is_fraction p q q1 (by omega) pg
    have f2 := s_is_fraction a b (by omega) (by omega) ag
    have l1 : m_less [fr p q, .tuple [.int 0, .int 1]] = some (.bool (decide (p * 1 < 0 * q))) := s_less p q 0 1 (by omega) (by omega)
    have l2 : m_less [.tuple [.int 1, .int 1], fr p q] = some (.bool (decide (1 * q < p * 1))) := s_less 1 1 p q (by omega) (by omega)
    have l3 : m_less [fr a b, .tuple [.int 0, .int 1]] = some (.bool (decide (a * 1 < 0 * b))) := s_less a b 0 1 (by omega) (by omega)
    have l4 : m_less [fr a b, .tuple [.int 1, .int 1]] = some (.bool (decide (a * 1 < 1 * b))) := s_less a b 1 1 (by omega) (by omega)
    rw [decide_eq_false (by omega)] at l1 l2 l3
    rw [decide_eq_true (by omega)] at l4
    unfold ru
    refine mD_ev rfl ?_
    show retO (t_is_line [.val (.tuple [fr p q, fr a b])]) = _
    unfold t_is_line
    walk_at "ev"
  unfold ru fr at hl ⊢
  refine mD_ev rfl ?_
  show retO (t_is_rule [.val (.tuple [.tuple [.int p, .int q], .tuple [.int a, .int b]])]) = _
  unfold t_is_rule
  walk_at "ev"
theorem s_check_rule {p q a b : Int} (h : Ru p q a b) : m_check_rule [ru p q a b] = some .none := by
  have h1 := s_is_rule h
  unfold ru at h1 ⊢
  refine mD_ev rfl ?_
  show retO (t_check_rule [.val (.tuple [fr p q, fr a b])]) = _
  unfold t_check_rule
  walk_at "ev"
/-- duties ahead of day n -/
def T (p q a b n : Int) : Int := (n * p * b + a * q) / (q * b)
theorem s_total_to {p q a b : Int} (n : Int) (h : Ru p q a b) (n1 : -(2 ^ 64) < n) (n2 : n < 2 ^ 64) : m_total_to [ru p q a b, .int n] = some (.int (T p q a b n)) := by
  obtain ⟨p0, pq, q1, q2, pg, a0, ab, b2, ag⟩ := h
  have g1 : PL.MulOk n p := PL.MulOk.l n1 n2
  have g2 : PL.MulOk (n * p) b := PL.MulOk.r (by omega) (by omega)
  have g3 : PL.MulOk a q := PL.MulOk.r (by omega) (by omega)
  have g4 : PL.MulOk q b := PL.MulOk.r (by omega) (by omega)
  have hb : 0 < b := by omega
  have g5 : DivOk (q * b) := DivOk.of (b := 128) (Int.mul_pos (by omega) hb) (Bk.mul (a := 64) (b := 64) (.of (by omega) (by omega)) (.of (by omega) (by omega))) (by decide)
  unfold ru fr
  refine mD_ev rfl ?_
  show retO (t_total_to [.val (.tuple [.tuple [.int p, .int q], .tuple [.int a, .int b]]), .val (.int n), .un, .un]) = _
  unfold t_total_to
  walk_at "ev"
  rfl
end W.S

set_option maxHeartbeats 4000000
namespace W.S
open PySem PySem.Spec PyProof.Rows L2 PL
local macro_rules | `(tactic| walk_at "ev") => `(tactic| simp only [nm0, no0, svu0, svv0, svo0, sou0, sov0, soo0, st0, gt0, mo0, po0, la0, lv0, me0, pe0, le0, nm1, no1, svu1, svv1, svo1, sou1, sov1, soo1, st1, gt1, mo1, po1, la1, lv1, me1, pe1, le1, nm2, no2, svu2, svv2, svo2, sou2, sov2, soo2, st2, gt2, mo2, po2, la2, lv2, me2, pe2, le2, nm3, no3, svu3, svv3, svo3, sou3, sov3, soo3, st3, gt3, mo3, po3, la3, lv3, nm4, no4, svu4, svv4, svo4, sou4, sov4, soo4, st4, gt4, mo4, po4, la4, lv4, nm5, no5, svu5, svv5, svo5, sou5, sov5, soo5, st5, gt5, mo5, po5, la5, lv5, nm6, no6, svu6, svv6, svo6, sou6, sov6, soo6, st6, gt6, mo6, po6, la6, lv6, nm7, no7, svu7, svv7, svo7, sou7, sov7, soo7, st7, gt7, mo7, po7, la7, lv7, nm8, no8, svu8, svv8, svo8, sou8, sov8, soo8, st8, gt8, mo8, po8, la8, lv8, nm9, no9, svu9, svv9, svo9, sou9, sov9, soo9, st9, gt9, mo9, po9, la9, lv9, nm10, no10, svu10, svv10, svo10, sou10, sov10, soo10, st10, gt10, mo10, po10, la10, lv10, nm11, no11, svu11, svv11, svo11, sou11, sov11, soo11, st11, gt11, mo11, po11, la11, lv11, nm12, no12, svu12, svv12, svo12, sou12, sov12, soo12, st12, gt12, mo12, po12, la12, lv12, nm13, no13, svu13, svv13, svo13, sou13, sov13, soo13, st13, gt13, mo13, po13, la13, lv13, nm14, no14, svu14, svv14, svo14, sou14, sov14, soo14, st14, gt14, mo14, po14, la14, lv14, nm15, no15, svu15, svv15, svo15, sou15, sov15, soo15, st15, gt15, mo15, po15, la15, lv15, nm16, no16, svu16, svv16, svo16, sou16, sov16, soo16, st16, gt16, mo16, po16, la16, lv16, nm17, no17, svu17, svv17, svo17, sou17, sov17, soo17, st17, gt17, mo17, po17, la17, lv17, nm18, no18, svu18, svv18, svo18, sou18, sov18, soo18, st18, gt18, mo18, po18, la18, lv18, nm19, no19, svu19, svv19, svo19, sou19, sov19, soo19, st19, gt19, mo19, po19, la19, lv19, nm20, no20, svu20, svv20, svo20, sou20, sov20, soo20, st20, gt20, mo20, po20, la20, lv20, nm21, no21, svu21, svv21, svo21, sou21, sov21, soo21, st21, gt21, mo21, po21, la21, lv21, nm22, no22, svu22, svv22, svo22, sou22, sov22, soo22, st22, gt22, mo22, po22, la22, lv22, nm23, no23, svu23, svv23, svo23, sou23, sov23, soo23, st23, gt23, mo23, po23, la23, lv23, nm24, no24, svu24, svv24, svo24, sou24, sov24, soo24, st24, gt24, mo24, po24, la24, lv24, nm25, no25, svu25, svv25, svo25, sou25, sov25, soo25, st25, gt25, mo25, po25, la25, lv25, e_C, e_Seq, q_nx, q_rt, q_bk, q_ct, e_If, i_t, i_f, e_Next, e_RetN, e_Break, e_Cont, e_Ret, r_s, e_Expr, x_s, nx_s, e_Set, set_s, e_Own, own_s, e_Asg, asg_s, g_nm, g_tup, gs_nil, gs_cons, gsb_s, e_Par, par_s, par2_s, e_Par3, par3_s, e_Bin, bin_s, binC_s, binD_s, e_Un, un_s, e_Chain, ch_s, chC_s, chD_t, chD_f, e_And, and_t, and_f, e_Or, or_t, or_f, e_Not, not_s, e_IfE, ife_t, ife_f, e_Tst, tst_s, e_CAnd, e_COr, cand_t, cand_f, cor_t, cor_f, e_CNot, cnot_s, e_aN, e_aC, con_s, conC_s, e_Tup, tup_s, e_Lst, lst_s, e_Of, of_s, e_Call, call_s, callC_s, e_FCall, fcal_s, fcalC_s, e_Meth, mth_s, mthC_s, e_Sl, sl_s, slC_s, slD_s, e_oN, e_oS, o_s, e_Ixo, ixo_s, ixoA_s, ixoC_s, e_Leno, len_s, e_CallH, hcA_s, hcB_s, hcC_s, hcD_s, e_Isi, isi_int_int, isi_int_bool, isi_int_str, isi_int_list, isi_int_tuple, isi_bool_int, isi_bool_bool, isi_bool_str, isi_bool_list, isi_bool_tuple, isi_str_int, isi_str_bool, isi_str_str, isi_str_list, isi_str_tuple, isi_list_int, isi_list_bool, isi_list_str, isi_list_list, isi_list_tuple, isi_tuple_int, isi_tuple_bool, isi_tuple_str, isi_tuple_list, isi_tuple_tuple, isi_none_int, isi_none_bool, isi_none_str, isi_none_list, isi_none_tuple, e_Comp, cmp_s, cmpE_s, wp_n, wp_c, bk_n, bk_c, bks_v, bks_u, bks_o, nx_n, nx_c, nx1_v, nx1_u, nx1_o, e_For, for_s, e_iAny, any_l, any_t, any_s, e_iR1, e_iR2, e_iZp, e_iEn, rg1_s, rg2_s, zp_s, en_l, en_s, e_App, apA_s, apB_s, e_Put, ptA_s, ptB_s, ptC_s, ptD_s, d_add, d_adds, d_addl, d_muls, d_sub, d_mul, d_div, d_mod, d_neg, d_lt, d_lts, d_le, d_gt, d_ge, d_eqi, d_eqs, d_eqb, d_nei, d_nes, d_neb, d_isn, d_isnn, isN_n, isN_i, isN_b, isN_s, isN_l, isN_t, ix_t0, at_0, ix_t1, at_1, ix_t2, at_2, ix_t3, at_3, ix_t4, at_4, ix_l, c_lenl, c_lent, c_lens, c_abs, c_int, c_tupl, c_tupt, c_lst, c_lstt, c_max2, c_min2, s_list, s_tup, s_str, e_ParM, pm_s, e_mN, e_mD, md_s, mdC_s, e_mL, ml_s, mlC_s, sms_n, sms_d, sms_l, sm_s, e_Rev, rv_s, retO_rt, retO_nx, szA0, szA1, szA2, szA3, szA4, szA5, szA6, szB0, szB1, e_fSeq, fsq_s, e_fRet, fret_s, mk1, mk2, mk3, mk4, mk5, mk6, dk1, dk2, dk3, zk1, zk2, zk3, pk18, pk6, pk4, ix5_0, ix5_1, ix5_2, ix5_3, ix5_4, List.set_cons_zero, List.set_cons_succ, rtHO_rt, rtHO_nx, List.length_cons, List.length_nil, if_true, if_false, Bool.not_true, Bool.not_false, decide_true, decide_false, true_and, and_true, Bool.and_true, Bool.true_and, *])

/-! rows, duties, sums -/
def rowL (p q a b f : Int) (n : Nat) : List Bool := (List.range n).map fun i => decide (T p q a b (f + (i : Nat)) < T p q a b (f + ((i : Nat) + 1)))
theorem s_row_of {p q a b : Int} (h : Ru p q a b) (f : Int) (n : Nat) (f0 : 0 ≤ f) (f1 : f ≤ 1000000000000) (hn : n ≤ 500) : m_row_of [ru p q a b, .int f, .int n] = some (.str (rw_ (rowL p q a b f n))) := by
  have k1 : small62 ((n : Int) + 1) = true := by unfold small62; simp; omega
  have k2 : small62 (n : Int) = true := by unfold small62; simp; omega
  have k3 : ((n : Int) + 1).toNat = n + 1 := by omega
  have k4 : (n : Int).toNat = n := by omega
  have c2 := comp_rgM (e0 := [.val (ru p q a b), .val (.int f), .val (.int n), .un, .un]) (g := gNm 4) (t := cYes) (vs := [4]) (me := eCall m_total_to (aCons (eNm 0) (aCons (eBin dAdd (eNm 1) (eNm 4)) aNil))) (f := fun i => .int (T p q a b (f + i))) (n + 1) fun i hi => by
    have h1 := s_total_to (f + i) h (by omega) (by omega)
    exact ⟨[.val (ru p q a b), .val (.int f), .val (.int n), .un, .val (.int i)], rfl, rfl, by walk_at "ev", rfl⟩
  have l2 : ((List.range (n + 1)).map fun i : Nat => PyData.int (T p q a b (f + i))).length ≤ sizeLine := sz (by rw [List.length_map, List.length_range]; omega)
  have hq2 : q_row_of_2 [.val (ru p q a b), .val (.int f), .val (.int n), .un, .un] = some ((List.range (n + 1)).map fun i : Nat => PyData.int (T p q a b (f + i)), [.val (ru p q a b), .val (.int f), .val (.int n), .un, .un]) := by
    unfold q_row_of_2
    walk_at "ev"
  generalize hL : ((List.range (n + 1)).map fun i : Nat => PyData.int (T p q a b (f + i))) = L at hq2
  have c1 := comp_rgM (e0 := [.val (ru p q a b), .val (.int f), .val (.int n), .val (.list L), .un]) (g := gNm 4) (t := cYes) (vs := [4]) (me := (eIf (tst (eBin dGt (eBin dIx (eNm 3) (eBin dAdd (eNm 4) (eC (.int 1)))) (eBin dIx (eNm 3) (eNm 4)))) (eC (.str "1")) (eC (.str "0")))) (f := fun i => .str (sgn (decide (T p q a b (f + i) < T p q a b (f + (i + 1)))))) n fun i hi => by
    have h1 : atI L (i : Int) = some (.int (T p q a b (f + i))) := by rw [← hL]; exact atI_range (F := fun i : Nat => PyData.int (T p q a b (f + i))) (by omega)
    have h2 : atI L ((i : Int) + 1) = some (.int (T p q a b (f + (i + 1)))) := by rw [← hL]; exact atI_range (F := fun i : Nat => PyData.int (T p q a b (f + i))) (i := i + 1) (by omega)
    refine ⟨[.val (ru p q a b), .val (.int f), .val (.int n), .val (.list L), .val (.int i)], rfl, rfl, ?_, rfl⟩
    cases hc : decide (T p q a b (f + i) < T p q a b (f + (i + 1)))
    · skip
      walk_at "ev"; try rfl
    · skip
      walk_at "ev"; try rfl
  have l1 : ((List.range n).map fun i : Nat => PyData.str (sgn (decide (T p q a b (f + i) < T p q a b (f + (i + 1)))))).length ≤ sizeLine := sz (by rw [List.length_map, List.length_range]; omega)
  have hq1 : q_row_of_1 [.val (ru p q a b), .val (.int f), .val (.int n), .val (.list L), .un] = some ((rowL p q a b f n).map fun b => PyData.str (sgn b), [.val (ru p q a b), .val (.int f), .val (.int n), .val (.list L), .un]) := by
    unfold rowL
    rw [List.map_map]
    unfold q_row_of_1
    walk_at "ev"
    rfl
  have hj := dJoin_rw (rowL p q a b f n) (by unfold rowL; rw [List.length_map, List.length_range]; omega)
  clear c1 c2 l1 l2 hL
  refine mD_ev rfl ?_
  show retO (t_row_of [.val (ru p q a b), .val (.int f), .val (.int n), .un, .un]) = _
  unfold t_row_of
  walk_at "ev"
theorem s_made {p q a b : Int} (h : Ru p q a b) (f : Int) (n : Nat) (f0 : 0 ≤ f) (f1 : f ≤ 1000000000000) (n1 : 1 ≤ n) (hn : n ≤ 500) : m_made [ru p q a b, .int f, .int n] = some (.str (rw_ (rowL p q a b f n))) := by
  have h1 := s_check_rule h
  have h2 := s_within f 0 1000000000000 f0 f1
  have h3 := s_within n 1 500 (by omega) (by omega)
  have h4 := s_row_of h f n f0 f1 hn
  refine mD_ev rfl ?_
  show retO (t_made [.val (ru p q a b), .val (.int f), .val (.int n)]) = _
  unfold t_made
  walk_at "ev"
theorem s_check_row (l : List Bool) (n1 : 1 ≤ l.length) (hn : l.length ≤ 500) : m_check_row [.str (rw_ l)] = some .none := by
  have k1 : (rw_ l).length ≤ sizeLine := by rw [rw_len]; exact sz (by omega)
  have k2 := rw_len l
  have c1 := comp_ofM (e0 := [.val (.str (rw_ l)), .un]) (g := gNm 1) (t := cYes) (vs := [1]) (me := (eBin dIn (eNm 1) (eTup (aCons (eC (.str "0")) (aCons (eC (.str "1")) aNil))))) (ι := fun b => .str (sgn b)) (f := fun _ => .bool true) l fun b hb => by
    have h1 : dIn (.str (sgn b)) (.tuple [.str "0", .str "1"]) = some (.bool true) := by cases b <;> kernel_rfl
    refine ⟨[.val (.str (rw_ l)), .val (.str (sgn b))], rfl, rfl, by walk_at "ev", rfl⟩
  rw [← chD_rw] at c1
  have l1 : (l.map fun _ => PyData.bool true).length ≤ sizeLine := sz (by rw [List.length_map]; omega)
  have hq : q_is_signs_1 [.val (.str (rw_ l)), .un] = some (l.map fun _ => PyData.bool true, [.val (.str (rw_ l)), .un]) := by
    unfold q_is_signs_1
    walk_at "ev"
  have hb : boolsOf (l.map fun _ => PyData.bool true) = some (l.map fun _ => true) := by
    rw [← boolsOf_map, List.map_map]; rfl
  have ha : dAll [.list (l.map fun _ => PyData.bool true)] = some (.bool true) := by
    show (boolsOf _).map _ = _
    rw [hb]
    simp
  have hs : m_is_signs [.str (rw_ l)] = some (.bool true) := by
    have g1 : decide (0 < ((rw_ l).length : Int)) = true := by rw [k2]; exact decide_eq_true (by omega)
    clear c1 l1 hb k2
    refine mD_ev rfl ?_
    show retO (t_is_signs [.val (.str (rw_ l)), .un]) = _
    unfold t_is_signs
    walk_at "ev"
  have hr : m_is_row [.str (rw_ l)] = some (.bool true) := by
    have g1 : decide (((rw_ l).length : Int) ≤ 500) = true := by rw [k2]; exact decide_eq_true (by omega)
    clear c1 l1 hb k2
    refine mD_ev rfl ?_
    show retO (t_is_row [.val (.str (rw_ l))]) = _
    unfold t_is_row
    walk_at "ev"
  refine mD_ev rfl ?_
  show retO (t_check_row [.val (.str (rw_ l))]) = _
  unfold t_check_row
  walk_at "ev"
/-- days of duty -/
def dutL (l : List Bool) : List Int := ((l.zipIdx).filter fun x => x.1).map fun x => (x.2 : Int)
theorem s_duties_of (l : List Bool) (hn : l.length ≤ 500) : m_duties_of [.str (rw_ l)] = some (.list ((dutL l).map .int)) := by
  have e1 : enD (chD (rw_ l)) = (l.zipIdx).map fun x => .tuple [.int (x.2 : Nat), .str (sgn x.1)] := by
    unfold enD
    rw [chD_rw, List.zipIdx_map, List.map_map]
    rfl
  have c1 := comp_of (e0 := [.val (.str (rw_ l)), .un, .un]) (g := gTupD 2 (gsCons (gNm 1) (gsCons (gNm 2) gsNil))) (t := tst (eBin dEq (eNm 2) (eC (.str "1")))) (vs := [1, 2]) (me := eNm 1) (ι := fun x : Bool × Nat => .tuple [.int (x.2 : Nat), .str (sgn x.1)]) (f := fun x : Bool × Nat => .int (x.2 : Nat)) (c := fun x => x.1) (l.zipIdx) fun x hx => by
    have h1 := sgn_eq1 x.1
    refine ⟨[.val (.str (rw_ l)), .val (.int (x.2 : Nat)), .val (.str (sgn x.1))], by walk_at "ev", by walk_at "ev", fun _ => rfl, rfl⟩
  rw [← e1] at c1
  clear e1
  have l1 : (((l.zipIdx).filter fun x => x.1).map fun x : Bool × Nat => PyData.int (x.2 : Nat)).length ≤ sizeLine := sz (by
    rw [List.length_map]
    refine Nat.le_trans (List.length_filter_le _ _) ?_
    rw [List.length_zipIdx]; omega)
  have hq : q_duties_of_1 [.val (.str (rw_ l)), .un, .un] = some ((dutL l).map PyData.int, [.val (.str (rw_ l)), .un, .un]) := by
    unfold dutL
    rw [List.map_map]
    unfold q_duties_of_1
    walk_at "ev"
    rfl
  clear c1 l1
  refine mD_ev rfl ?_
  show retO (t_duties_of [.val (.str (rw_ l)), .un, .un]) = _
  unfold t_duties_of
  walk_at "ev"
/-- how many duties lie in the first i days -/
def cnt (l : List Bool) : Nat := l.countP id
def sumsL (l : List Bool) : List Int := (List.range (l.length + 1)).map fun i => (cnt (l.take i) : Int)
theorem cnt_app (l m : List Bool) : cnt (l ++ m) = cnt l + cnt m := by unfold cnt; rw [List.countP_append]
theorem sumsL_last (l : List Bool) : sumsL l = ((List.range l.length).map fun i => (cnt (l.take i) : Int)) ++ [(cnt l : Int)] := by
  unfold sumsL
  rw [List.range_succ, List.map_append, List.map_cons, List.map_nil, List.take_length]
theorem sumsL_app (l : List Bool) (b : Bool) : sumsL (l ++ [b]) = sumsL l ++ [(cnt l : Int) + if b then 1 else 0] := by
  rw [sumsL_last (l ++ [b]), List.length_append, List.length_singleton]
  congr 1
  · unfold sumsL
    apply List.map_congr_left
    intro i hi
    rw [List.take_append_of_le_length (by rw [List.mem_range] at hi; omega)]
  · rw [cnt_app]
    congr 1
    cases b <;> simp [cnt]
end W.S

set_option maxHeartbeats 4000000
namespace W.S
open PySem PySem.Spec PyProof.Rows L2 PL
local macro_rules | `(tactic| walk_at "ev") => `(tactic| simp only [nm0, no0, svu0, svv0, svo0, sou0, sov0, soo0, st0, gt0, mo0, po0, la0, lv0, me0, pe0, le0, nm1, no1, svu1, svv1, svo1, sou1, sov1, soo1, st1, gt1, mo1, po1, la1, lv1, me1, pe1, le1, nm2, no2, svu2, svv2, svo2, sou2, sov2, soo2, st2, gt2, mo2, po2, la2, lv2, me2, pe2, le2, nm3, no3, svu3, svv3, svo3, sou3, sov3, soo3, st3, gt3, mo3, po3, la3, lv3, nm4, no4, svu4, svv4, svo4, sou4, sov4, soo4, st4, gt4, mo4, po4, la4, lv4, nm5, no5, svu5, svv5, svo5, sou5, sov5, soo5, st5, gt5, mo5, po5, la5, lv5, nm6, no6, svu6, svv6, svo6, sou6, sov6, soo6, st6, gt6, mo6, po6, la6, lv6, nm7, no7, svu7, svv7, svo7, sou7, sov7, soo7, st7, gt7, mo7, po7, la7, lv7, nm8, no8, svu8, svv8, svo8, sou8, sov8, soo8, st8, gt8, mo8, po8, la8, lv8, nm9, no9, svu9, svv9, svo9, sou9, sov9, soo9, st9, gt9, mo9, po9, la9, lv9, nm10, no10, svu10, svv10, svo10, sou10, sov10, soo10, st10, gt10, mo10, po10, la10, lv10, nm11, no11, svu11, svv11, svo11, sou11, sov11, soo11, st11, gt11, mo11, po11, la11, lv11, nm12, no12, svu12, svv12, svo12, sou12, sov12, soo12, st12, gt12, mo12, po12, la12, lv12, nm13, no13, svu13, svv13, svo13, sou13, sov13, soo13, st13, gt13, mo13, po13, la13, lv13, nm14, no14, svu14, svv14, svo14, sou14, sov14, soo14, st14, gt14, mo14, po14, la14, lv14, nm15, no15, svu15, svv15, svo15, sou15, sov15, soo15, st15, gt15, mo15, po15, la15, lv15, nm16, no16, svu16, svv16, svo16, sou16, sov16, soo16, st16, gt16, mo16, po16, la16, lv16, nm17, no17, svu17, svv17, svo17, sou17, sov17, soo17, st17, gt17, mo17, po17, la17, lv17, nm18, no18, svu18, svv18, svo18, sou18, sov18, soo18, st18, gt18, mo18, po18, la18, lv18, nm19, no19, svu19, svv19, svo19, sou19, sov19, soo19, st19, gt19, mo19, po19, la19, lv19, nm20, no20, svu20, svv20, svo20, sou20, sov20, soo20, st20, gt20, mo20, po20, la20, lv20, nm21, no21, svu21, svv21, svo21, sou21, sov21, soo21, st21, gt21, mo21, po21, la21, lv21, nm22, no22, svu22, svv22, svo22, sou22, sov22, soo22, st22, gt22, mo22, po22, la22, lv22, nm23, no23, svu23, svv23, svo23, sou23, sov23, soo23, st23, gt23, mo23, po23, la23, lv23, nm24, no24, svu24, svv24, svo24, sou24, sov24, soo24, st24, gt24, mo24, po24, la24, lv24, nm25, no25, svu25, svv25, svo25, sou25, sov25, soo25, st25, gt25, mo25, po25, la25, lv25, e_C, e_Seq, q_nx, q_rt, q_bk, q_ct, e_If, i_t, i_f, e_Next, e_RetN, e_Break, e_Cont, e_Ret, r_s, e_Expr, x_s, nx_s, e_Set, set_s, e_Own, own_s, e_Asg, asg_s, g_nm, g_tup, gs_nil, gs_cons, gsb_s, e_Par, par_s, par2_s, e_Par3, par3_s, e_Bin, bin_s, binC_s, binD_s, e_Un, un_s, e_Chain, ch_s, chC_s, chD_t, chD_f, e_And, and_t, and_f, e_Or, or_t, or_f, e_Not, not_s, e_IfE, ife_t, ife_f, e_Tst, tst_s, e_CAnd, e_COr, cand_t, cand_f, cor_t, cor_f, e_CNot, cnot_s, e_aN, e_aC, con_s, conC_s, e_Tup, tup_s, e_Lst, lst_s, e_Of, of_s, e_Call, call_s, callC_s, e_FCall, fcal_s, fcalC_s, e_Meth, mth_s, mthC_s, e_Sl, sl_s, slC_s, slD_s, e_oN, e_oS, o_s, e_Ixo, ixo_s, ixoA_s, ixoC_s, e_Leno, len_s, e_CallH, hcA_s, hcB_s, hcC_s, hcD_s, e_Isi, isi_int_int, isi_int_bool, isi_int_str, isi_int_list, isi_int_tuple, isi_bool_int, isi_bool_bool, isi_bool_str, isi_bool_list, isi_bool_tuple, isi_str_int, isi_str_bool, isi_str_str, isi_str_list, isi_str_tuple, isi_list_int, isi_list_bool, isi_list_str, isi_list_list, isi_list_tuple, isi_tuple_int, isi_tuple_bool, isi_tuple_str, isi_tuple_list, isi_tuple_tuple, isi_none_int, isi_none_bool, isi_none_str, isi_none_list, isi_none_tuple, e_Comp, cmp_s, cmpE_s, wp_n, wp_c, bk_n, bk_c, bks_v, bks_u, bks_o, nx_n, nx_c, nx1_v, nx1_u, nx1_o, e_For, for_s, e_iAny, any_l, any_t, any_s, e_iR1, e_iR2, e_iZp, e_iEn, rg1_s, rg2_s, zp_s, en_l, en_s, e_App, apA_s, apB_s, e_Put, ptA_s, ptB_s, ptC_s, ptD_s, d_add, d_adds, d_addl, d_muls, d_sub, d_mul, d_div, d_mod, d_neg, d_lt, d_lts, d_le, d_gt, d_ge, d_eqi, d_eqs, d_eqb, d_nei, d_nes, d_neb, d_isn, d_isnn, isN_n, isN_i, isN_b, isN_s, isN_l, isN_t, ix_t0, at_0, ix_t1, at_1, ix_t2, at_2, ix_t3, at_3, ix_t4, at_4, ix_l, c_lenl, c_lent, c_lens, c_abs, c_int, c_tupl, c_tupt, c_lst, c_lstt, c_max2, c_min2, s_list, s_tup, s_str, e_ParM, pm_s, e_mN, e_mD, md_s, mdC_s, e_mL, ml_s, mlC_s, sms_n, sms_d, sms_l, sm_s, e_Rev, rv_s, retO_rt, retO_nx, szA0, szA1, szA2, szA3, szA4, szA5, szA6, szB0, szB1, e_fSeq, fsq_s, e_fRet, fret_s, mk1, mk2, mk3, mk4, mk5, mk6, dk1, dk2, dk3, zk1, zk2, zk3, pk18, pk6, pk4, ix5_0, ix5_1, ix5_2, ix5_3, ix5_4, List.set_cons_zero, List.set_cons_succ, rtHO_rt, rtHO_nx, List.length_cons, List.length_nil, if_true, if_false, Bool.not_true, Bool.not_false, decide_true, decide_false, true_and, and_true, Bool.and_true, Bool.true_and, *])

/-! forms, nth duties, the hand -/
theorem T_frac {p q a b k : Int} (n : Int) (hb : 0 < b) (h : a * q = k * b) : T p q a b n = (n * p + k) / q := by
  unfold T
  rw [h, show n * p * b + k * b = (n * p + k) * b by rw [Int.add_mul]]
  exact Int.mul_ediv_mul_of_pos_left _ _ hb
theorem T_more {p q a b k m : Int} (n : Int) (hb : 0 < b) (hq : 0 < q) (m0 : 0 ≤ m) (m1 : m < 3) (h : a * (3 * q) = (3 * k + m) * b) : T p q a b n = (n * p + k) / q := by
  unfold T
  have e1 : (n * p * b + a * q) * 3 = (3 * (n * p + k) + m) * b := by
    have : a * q * 3 = (3 * k + m) * b := by rw [← h]; simp only [Int.mul_add, Int.add_mul, Int.mul_assoc, Int.mul_comm, Int.mul_left_comm, Int.add_assoc]
    have e : (3 * (n * p + k) + m) * b = n * p * b * 3 + (3 * k + m) * b := by simp only [Int.mul_add, Int.add_mul, Int.mul_assoc, Int.mul_comm, Int.mul_left_comm, Int.add_assoc]
    rw [Int.add_mul, this, e]
  have e2 : (n * p * b + a * q) / (q * b) = ((n * p * b + a * q) * 3) / (q * b * 3) := (Int.mul_ediv_mul_of_pos_left _ _ (by omega)).symm
  rw [e2, e1, show q * b * 3 = 3 * q * b by simp only [Int.mul_add, Int.add_mul, Int.mul_assoc, Int.mul_comm, Int.mul_left_comm, Int.add_assoc], Int.mul_ediv_mul_of_pos_left _ _ hb, ← Int.ediv_ediv_of_nonneg (by omega)]
  congr 1
  omega
theorem s_nth_duty {p q a b : Int} (j : Int) (h : Ru p q a b) (hp : 0 < p) (j0 : 0 ≤ j) (j1 : j ≤ 1000000000000) : m_nth_duty [ru p q a b, .int j] = some (.int (-((-(((j + 1) * b - a) * q)) / (p * b)) - 1)) := by
  have h1 := s_check_rule h
  have h2 := s_within j 0 1000000000000 j0 j1
  obtain ⟨p0, pq, q1, q2, pg, a0, ab, b2, ag⟩ := h
  have e1 : dEq (.tuple [.int p, .int q]) (.tuple [.int 0, .int 1]) = some (.bool false) := by
    have h3 : PyData.eqv (.tuple [.int p, .int q]) (.tuple [.int 0, .int 1]) = false := by
      simp [PyData.eqv, PyData.eqvAll]
      omega
    show (if SeqAt.shaped (.tuple [.int p, .int q]) = true ∧ SeqAt.shaped (.tuple [.int 0, .int 1]) = true then some (PyData.eqv (.tuple [.int p, .int q]) (.tuple [.int 0, .int 1])) else none).map PyData.bool = _
    rw [h3, if_pos ⟨rfl, rfl⟩]; rfl
  have g1 : PL.MulOk (j + 1) b := PL.MulOk.l (by omega) (by omega)
  have g2 : PL.MulOk ((j + 1) * b - a) q := PL.MulOk.r (by omega) (by omega)
  have g3 : PL.MulOk p b := PL.MulOk.l (by omega) (by omega)
  have g4 : DivOk (p * b) := DivOk.of (b := 128) (Int.mul_pos hp (by omega)) (Bk.mul (a := 64) (b := 64) (.of (by omega) (by omega)) (.of (by omega) (by omega))) (by decide)
  unfold ru fr at h1 ⊢
  refine mD_ev rfl ?_
  show retO (t_nth_duty [.val (.tuple [.tuple [.int p, .int q], .tuple [.int a, .int b]]), .val (.int j), .un, .un, .un, .un]) = _
  unfold t_nth_duty
  walk_at "ev"
theorem le_mul_r {a b : Int} (h1 : 0 ≤ a) (h2 : 1 ≤ b) : a ≤ a * b := by
  have := Int.mul_le_mul_of_nonneg_left h2 h1
  omega
theorem le_mul_l {a b : Int} (h1 : 0 ≤ a) (h2 : 1 ≤ b) : a ≤ b * a := by
  have := Int.mul_le_mul_of_nonneg_right h2 h1
  omega
/-- a normal form -/
structure Nf (p q k : Int) : Prop where
  p0 : 0 ≤ p
  pq : p ≤ q
  q1 : 1 ≤ q
  q2 : q ≤ 10001
  pg : Int.gcd p q = 1
  k0 : 0 ≤ k
  kq : k < q
theorem low {x y : Int} (hx : 0 ≤ x) (hy : 0 < y) : ∃ g a b : Int, g = Int.gcd x y ∧ 0 < g ∧ a = x / g ∧ b = y / g ∧ x = a * g ∧ y = b * g ∧ 0 ≤ a ∧ 0 < b ∧ Int.gcd a b = 1 := by
  have h0 : 0 < Int.gcd x y := Int.gcd_pos_of_ne_zero_right _ (by omega)
  have h1 : (0 : Int) < Int.gcd x y := by omega
  have e1 : x = x / Int.gcd x y * Int.gcd x y := (Int.ediv_mul_cancel (Int.gcd_dvd_left x y)).symm
  have e2 : y = y / Int.gcd x y * Int.gcd x y := (Int.ediv_mul_cancel (Int.gcd_dvd_right x y)).symm
  refine ⟨_, _, _, rfl, h1, rfl, rfl, e1, e2, Int.ediv_nonneg hx (by omega), ?_, Int.gcd_ediv_gcd_ediv_gcd h0⟩
  rw [e2] at hy
  exact Int.pos_of_mul_pos_left hy (by omega)
theorem s_rule_of {p q k : Int} (h : Nf p q k) (q3 : q ≤ 10000) : ∃ a b, m_rule_of [.tuple [.int p, .int q, .int k]] = some (ru p q a b) ∧ Ru p q a b ∧ a * q = k * b ∧ (∀ n, T p q a b n = (n * p + k) / q) := by
  obtain ⟨p0, pq, q1, q2, pg, k0, kq⟩ := h
  obtain ⟨g, a, b, hg, g0, ha, hb, e1, e2, a0, b0, ag⟩ := low k0 (show 0 < q by omega)
  have hba : b ≤ q := by rw [e2]; exact le_mul_r (by omega) (by omega)
  have hab : a < b := by
    rw [e1, e2] at kq
    exact Int.lt_of_mul_lt_mul_right kq (by omega)
  have e3 : a * q = k * b := by
    rw [e1, e2, Int.mul_assoc, Int.mul_comm b g]
  have f1 : m_frac [.int p, .int q] = some (fr p q) := by
    rw [s_frac p q q1 (by omega), pg]
    show some (fr (p / 1) (q / 1)) = _
    rw [Int.ediv_one, Int.ediv_one]
  have f2 : m_frac [.int k, .int q] = some (fr a b) := by
    rw [s_frac k q q1 (by omega), ← hg, ← ha, ← hb]
  have e4 : ∀ n, T p q a b n = (n * p + k) / q := fun n => T_frac n b0 e3
  clear e1 e2 ha hb hg
  have hm : m_made_of [.tuple [.int p, .int q, .int k]] = some (ru p q a b) := by
    unfold ru
    refine mD_ev rfl ?_
    show retO (t_made_of [.val (.tuple [.int p, .int q, .int k])]) = _
    unfold t_made_of
    walk_at "ev"
  refine ⟨a, b, ?_, ⟨p0, pq, q1, q3, pg, a0, hab, by omega, ag⟩, e3, e4⟩
  clear e3 e4
  have t3 := s_three (.int p) (.int q) (.int k)
  have w1 := s_within q 1 10000 q1 q3
  have w2 := s_within p 0 q p0 pq
  have w3 := s_within k 0 (q - 1) k0 (by omega)
  have hc : m_common [.int p, .int q] = some (.int 1) := by rw [s_common p q (by omega), pg]; rfl
  refine mD_ev rfl ?_
  show retO (t_rule_of [.val (.tuple [.int p, .int q, .int k])]) = _
  unfold t_rule_of
  walk_at "ev"
/-! the hand -/
def HandOk (hs : List D) : Prop := ∃ (cells : List Int) (i l m c : Int), hs = [.list (cells.map .int), .int i, .int l, .int m, .int c] ∧ 0 ≤ i
theorem s_law_hand (ns : List Int) (h : ns.length ≤ 63) : ∃ hs, m_law_hand [.list (ns.map .int)] = some hs ∧ HandOk hs := by
  have c0 : cutD (ns.map PyData.int) none (some 63) = ns.map PyData.int := by
    show ((ns.map PyData.int).drop 0).take ((if (63 : Int) < 0 then ((63 : Int) + ((ns.map PyData.int).length : Nat)).toNat else min (63 : Int).toNat (ns.map PyData.int).length) - 0) = _
    rw [List.drop_zero, if_neg (by omega), List.take_of_length_le (by rw [List.length_map]; omega)]
  have c1 := comp_ofM (e0 := [.val (.list (ns.map PyData.int)), .un, .un]) (g := gNm 2) (t := cYes) (vs := [2]) (me := (eCall dAbs (aCons (eCall dInt (aCons (eNm 2) aNil)) aNil))) (ι := PyData.int) (f := fun i => .int (if i < 0 then -i else i)) ns fun i hi =>
    ⟨[.val (.list (ns.map PyData.int)), .un, .val (.int i)], rfl, rfl, by walk_at "ev", rfl⟩
  have l1 : (ns.map fun i => PyData.int (if i < 0 then -i else i)).length ≤ sizeLine := sz (by rw [List.length_map]; omega)
  have hq : q_law_hand_1 [.val (.list (ns.map PyData.int)), .un, .un] = some (ns.map fun i => PyData.int (if i < 0 then -i else i), [.val (.list (ns.map PyData.int)), .un, .un]) := by
    unfold q_law_hand_1
    walk_at "ev"
  clear c1 l1
  refine ⟨[.list (ns.map fun i => PyData.int (if i < 0 then -i else i)), .int 0, .int 0, .int (41011 + 13 * ((ns.map fun i => PyData.int (if i < 0 then -i else i)).length : Nat)), .int 0], ?_, ⟨ns.map fun i => (if i < 0 then -i else i), 0, 0, _, 0, by rw [List.map_map]; rfl, by omega⟩⟩
  show t_law_hand [.val (.list (ns.map PyData.int)), .un, .un] = _
  unfold t_law_hand
  walk_at "ev"
theorem s_draw {hs : List D} (h : HandOk hs) (m : Int) (m0 : 0 < m) (m1 : m < 2 ^ 64) : ∃ d hs', m_law_draw hs [.int m] = some (.int d, hs') ∧ 0 ≤ d ∧ d < m ∧ HandOk hs' := by
  obtain ⟨cells, i, l, x, c, rfl, i0⟩ := h
  have gd : DivOk m := DivOk.s m0 m1
  by_cases c1 : l = 0
  · have e1 : decide (l = 0) = true := decide_eq_true c1
    have e4 : decide (0 < l) = false := decide_eq_false (by omega)
    by_cases c2 : i < ((cells.map PyData.int).length : Nat)
    · have e2 : decide (i < ((cells.map PyData.int).length : Nat)) = true := decide_eq_true c2
      obtain ⟨d, hd, hm⟩ := atI_int i0 c2
      obtain ⟨y, _, rfl⟩ := List.mem_map.mp hm
      clear hm
      by_cases c3 : 1000000000000000000 ≤ y
      · have e3 : decide (1000000000000000000 ≤ y) = true := decide_eq_true c3
        have e5 : decide (0 < y) = true := decide_eq_true (by omega)
        clear c1 c2 m1
        refine ⟨?dL1, ?hL1, ?eL1, ?xL1, ?yL1, ?zL1⟩
        case eL1 =>
          refine mH_ev rfl ?_
          show rtHO (t_law_draw [.ext ([.list (cells.map .int), .int i, .int l, .int x, .int c]), .val (.int m), .un, .un, .un]) = _
          unfold t_law_draw
          walk_at "ev"
          try rfl
        · exact Int.emod_nonneg _ (by omega)
        · exact Int.emod_lt_of_pos _ m0
        · exact ⟨_, _, _, _, _, rfl, by omega⟩
      · have e3 : decide (1000000000000000000 ≤ y) = false := decide_eq_false c3
        clear c1 c2 m1
        refine ⟨?dL2, ?hL2, ?eL2, ?xL2, ?yL2, ?zL2⟩
        case eL2 =>
          refine mH_ev rfl ?_
          show rtHO (t_law_draw [.ext ([.list (cells.map .int), .int i, .int l, .int x, .int c]), .val (.int m), .un, .un, .un]) = _
          unfold t_law_draw
          walk_at "ev"
          try rfl
        · exact Int.emod_nonneg _ (by omega)
        · exact Int.emod_lt_of_pos _ m0
        · exact ⟨_, _, _, _, _, rfl, by omega⟩
    · have e2 : decide (i < ((cells.map PyData.int).length : Nat)) = false := decide_eq_false c2
      clear c1 c2 m1
      refine ⟨?dL3, ?hL3, ?eL3, ?xL3, ?yL3, ?zL3⟩
      case eL3 =>
        refine mH_ev rfl ?_
        show rtHO (t_law_draw [.ext ([.list (cells.map .int), .int i, .int l, .int x, .int c]), .val (.int m), .un, .un, .un]) = _
        unfold t_law_draw
        walk_at "ev"
        try rfl
      · exact Int.emod_nonneg _ (by omega)
      · exact Int.emod_lt_of_pos _ m0
      · exact ⟨_, _, _, _, _, rfl, by omega⟩
  · have e1 : decide (l = 0) = false := decide_eq_false c1
    by_cases c4 : 0 < l
    · have e4 : decide (0 < l) = true := decide_eq_true c4
      clear c1 c4 m1
      refine ⟨?dL4, ?hL4, ?eL4, ?xL4, ?yL4, ?zL4⟩
      case eL4 =>
        refine mH_ev rfl ?_
        show rtHO (t_law_draw [.ext ([.list (cells.map .int), .int i, .int l, .int x, .int c]), .val (.int m), .un, .un, .un]) = _
        unfold t_law_draw
        walk_at "ev"
        try rfl
      · exact Int.emod_nonneg _ (by omega)
      · exact Int.emod_lt_of_pos _ m0
      · exact ⟨_, _, _, _, _, rfl, by omega⟩
    · have e4 : decide (0 < l) = false := decide_eq_false c4
      clear c1 c4 m1
      refine ⟨?dL5, ?hL5, ?eL5, ?xL5, ?yL5, ?zL5⟩
      case eL5 =>
        refine mH_ev rfl ?_
        show rtHO (t_law_draw [.ext ([.list (cells.map .int), .int i, .int l, .int x, .int c]), .val (.int m), .un, .un, .un]) = _
        unfold t_law_draw
        walk_at "ev"
        try rfl
      · exact Int.emod_nonneg _ (by omega)
      · exact Int.emod_lt_of_pos _ m0
      · exact ⟨_, _, _, _, _, rfl, by omega⟩
theorem s_some {hs : List D} (h : HandOk hs) (ds : List D) (n0 : 0 < ds.length) (n1 : ds.length < 1000) : ∃ d hs', m_law_some hs [.list ds] = some (d, hs') ∧ d ∈ ds ∧ HandOk hs' := by
  obtain ⟨k, hs', e, k0, k1, h2⟩ := s_draw h ds.length (by omega) (by omega)
  obtain ⟨d, hd, hm⟩ := atI_int k0 k1
  refine ⟨d, hs', ?_, hm, h2⟩
  refine mH_ev rfl ?_
  show rtHO (t_law_some [.ext (hs), .val (.list ds)]) = _
  unfold t_law_some
  walk_at "ev"
theorem s_law_fraction (a b : Int) (a0 : 0 ≤ a) (b0 : 0 < b) (b1 : b < 2 ^ 64) : m_law_fraction [.int a, .int b] = some (fr (a / Int.gcd a b) (b / Int.gcd a b)) := by
  have h1 := s_divisor a b a0 (by omega) b1
  have h2 : (if a < 0 then -a else a) = a := if_neg (by omega)
  have hg : 0 < Int.gcd a b := Int.gcd_pos_of_ne_zero_right _ (by omega)
  have hg2 : (Int.gcd a b : Int) ≤ b := Int.le_of_dvd (by omega) (Int.gcd_dvd_right _ _)
  have hd : DivOk (Int.gcd a b : Int) := DivOk.s (by omega) (by omega)
  refine mD_ev rfl ?_
  show retO (t_law_fraction [.val (.int a), .val (.int b), .un]) = _
  unfold t_law_fraction
  walk_at "ev"
  rfl
theorem s_law_is {a : D} {s : Str} (h : dRepr [a] = some (.str s)) : m_law_is [a, a] = some (.bool true) := by
  refine mD_ev rfl ?_
  show retO (t_law_is [.val (a), .val (a)]) = _
  unfold t_law_is
  walk_at "ev"
theorem s_form {hs : List D} (h : HandOk hs) (M : Int) (M0 : 30 ≤ M) (M1 : M ≤ 10000) : ∃ p q k hs', m_law_form hs [.int M] = some (.tuple [.int p, .int q, .int k], hs') ∧ Nf p q k ∧ q ≤ M ∧ HandOk hs' := by
  obtain ⟨d, h1, e1, dm, o1⟩ := s_some h [.int 6, .int 30, .int M] (by simp) (by simp)
  have hd : ∃ n, d = .int n ∧ 1 ≤ n ∧ n ≤ M := by
    simp at dm
    rcases dm with rfl | rfl | rfl
    · exact ⟨_, rfl, by omega, by omega⟩
    · exact ⟨_, rfl, by omega, by omega⟩
    · exact ⟨_, rfl, by omega, by omega⟩
  obtain ⟨n, rfl, n1, n2⟩ := hd
  clear dm
  obtain ⟨u, h2, e2, u0, u1, o2⟩ := s_draw o1 n (by omega) (by omega)
  obtain ⟨v, h3, e3, v0, v1, o3⟩ := s_draw o2 (1 + u + 1) (by omega) (by omega)
  have e4 := s_divisor v (1 + u) v0 (by omega) (by omega)
  obtain ⟨g, p, q, hg, g0, hp, hq, x1, x2, p0, q0, pg⟩ := low v0 (show 0 < 1 + u by omega)
  rw [← hg] at e4
  have hqu : q ≤ 1 + u := by rw [x2]; exact le_mul_r (by omega) (by omega)
  have hgu : g ≤ 1 + u := by rw [x2]; exact le_mul_l (by omega) (by omega)
  have hpq : p ≤ q := by
    have : p * g ≤ q * g := by omega
    exact Int.le_of_mul_le_mul_right this g0
  obtain ⟨k, h4, e5, k0, k1, o4⟩ := s_draw o3 q q0 (by omega)
  have gd : DivOk g := DivOk.s g0 (by omega)
  refine ⟨p, q, k, h4, ?_, ⟨p0, hpq, by omega, by omega, pg, k0, k1⟩, by omega, o4⟩
  clear o1 o2 o3 o4 h x1 x2 hg
  replace hp := hp.symm
  replace hq := hq.symm
  refine mH_ev rfl ?_
  show rtHO (t_law_form [.ext (hs), .val (.int M), .un, .un, .un]) = _
  unfold t_law_form
  walk_at "ev"
theorem s_law_rule' {hs : List D} (h : HandOk hs) {p q k : Int} (hf : Nf p q k) (q3 : 3 * q ≤ 10000) : ∃ a b hs', m_law_rule hs [.tuple [.int p, .int q, .int k]] = some (ru p q a b, hs') ∧ Ru p q a b ∧ (∀ n, T p q a b n = (n * p + k) / q) ∧ q * a / b = k ∧ HandOk hs' := by
  obtain ⟨p0, pq, q1, q2, pg, k0, kq⟩ := hf
  obtain ⟨d, h1, e1, dm, o1⟩ := s_some h [.int 0, .int 0, .int 1, .int 2] (by simp) (by simp)
  have hd : ∃ n, d = .int n ∧ 0 ≤ n ∧ n < 3 := by
    simp at dm
    rcases dm with rfl | rfl | rfl
    · exact ⟨_, rfl, by omega, by omega⟩
    · exact ⟨_, rfl, by omega, by omega⟩
    · exact ⟨_, rfl, by omega, by omega⟩
  obtain ⟨m, rfl, m0, m1⟩ := hd
  clear dm
  obtain ⟨g, a, b, hg, g0, ha, hb, x1, x2, a0, b0, ag⟩ := low (show 0 ≤ 3 * k + m by omega) (show 0 < 3 * q by omega)
  have hba : b ≤ 3 * q := by rw [x2]; exact le_mul_r (by omega) (by omega)
  have hab : a < b := by
    have : a * g < b * g := by omega
    exact Int.lt_of_mul_lt_mul_right this (by omega)
  have e3 : a * (3 * q) = (3 * k + m) * b := by
    rw [x1, x2, Int.mul_assoc, Int.mul_comm b g]
  have e4 : q * a / b = k := by
    have e5 : q * a * 3 = (3 * k + m) * b := by rw [← e3, Int.mul_comm q a, Int.mul_assoc, Int.mul_comm q 3]
    have e6 : q * a / b = (q * a * 3) / (b * 3) := (Int.mul_ediv_mul_of_pos_left _ _ (by omega)).symm
    rw [e6, e5, Int.mul_comm b 3, Int.mul_ediv_mul_of_pos_left _ _ b0]
    omega
  have f1 := s_law_fraction (3 * k + m) (3 * q) (by omega) (by omega) (by omega)
  rw [← hg, ← ha, ← hb] at f1
  refine ⟨a, b, h1, ?_, ⟨p0, pq, q1, by omega, pg, a0, hab, by omega, ag⟩, fun n => T_more n b0 (by omega) m0 m1 e3, e4, o1⟩
  have g1 : PL.MulOk 3 q := PL.MulOk.l (by omega) (by omega)
  have g2 : PL.MulOk 3 k := PL.MulOk.l (by omega) (by omega)
  have g3 : decide (3 * q ≤ 10000) = true := decide_eq_true q3
  clear x1 x2 e3 e4 o1 h q3 ha hb
  unfold ru
  refine mH_ev rfl ?_
  show rtHO (t_law_rule [.ext (hs), .val (.tuple [.int p, .int q, .int k]), .un, .un, .un, .un]) = _
  unfold t_law_rule
  walk_at "ev"
  rfl
theorem s_law_rule {hs : List D} (h : HandOk hs) {p q k : Int} (hf : Nf p q k) (q3 : 3 * q ≤ 10000) : ∃ a b hs', m_law_rule hs [.tuple [.int p, .int q, .int k]] = some (ru p q a b, hs') ∧ Ru p q a b ∧ (∀ n, T p q a b n = (n * p + k) / q) ∧ HandOk hs' := by
  obtain ⟨a, b, h', e, R, t, _, o⟩ := s_law_rule' h hf q3
  exact ⟨a, b, h', e, R, t, o⟩
theorem log_lt {x : Int} (h : x.natAbs < 10 ^ 12) : x.natAbs.log2 < 41 := by
  by_cases h0 : x.natAbs = 0
  · rw [h0]; decide
  · rw [Nat.log2_lt h0]; omega
theorem repr2 (x y : Int) (hx : x.natAbs < 10 ^ 12) (hy : y.natAbs < 10 ^ 12) : ∃ s, dRepr [.list [.int x, .int y]] = some (.str s) := by
  have l1 := log_lt hx
  have l2 := log_lt hy
  refine ⟨_, if_pos ⟨?_, by simp [PyData.hasDict, PyData.hasDictAll], by simp [PyData.depth, PyData.depthAll], ?_⟩⟩
  · simp [PyData.showable, PyData.showableAll]; omega
  have h := PyData.shown_le 13 (by omega) (.list [.int x, .int y]) (by
    have h1 := PyData.shown_int_le hx
    have h2 := PyData.shown_int_le hy
    simp [PyData.leavesShort, PyData.leavesShortAll, h1, h2])
  have hw : (PyData.list [.int x, .int y]).weight ≤ 1000 := by
    simp [PyData.weight, PyData.weightAll]
    split <;> split <;> omega
  exact Nat.le_trans h (sz (by omega))
end W.S

set_option maxHeartbeats 4000000
namespace W.S
open PySem PySem.Spec PyProof.Rows L2 PL
local macro_rules | `(tactic| walk_at "ev") => `(tactic| simp only [nm0, no0, svu0, svv0, svo0, sou0, sov0, soo0, st0, gt0, mo0, po0, la0, lv0, me0, pe0, le0, nm1, no1, svu1, svv1, svo1, sou1, sov1, soo1, st1, gt1, mo1, po1, la1, lv1, me1, pe1, le1, nm2, no2, svu2, svv2, svo2, sou2, sov2, soo2, st2, gt2, mo2, po2, la2, lv2, me2, pe2, le2, nm3, no3, svu3, svv3, svo3, sou3, sov3, soo3, st3, gt3, mo3, po3, la3, lv3, nm4, no4, svu4, svv4, svo4, sou4, sov4, soo4, st4, gt4, mo4, po4, la4, lv4, nm5, no5, svu5, svv5, svo5, sou5, sov5, soo5, st5, gt5, mo5, po5, la5, lv5, nm6, no6, svu6, svv6, svo6, sou6, sov6, soo6, st6, gt6, mo6, po6, la6, lv6, nm7, no7, svu7, svv7, svo7, sou7, sov7, soo7, st7, gt7, mo7, po7, la7, lv7, nm8, no8, svu8, svv8, svo8, sou8, sov8, soo8, st8, gt8, mo8, po8, la8, lv8, nm9, no9, svu9, svv9, svo9, sou9, sov9, soo9, st9, gt9, mo9, po9, la9, lv9, nm10, no10, svu10, svv10, svo10, sou10, sov10, soo10, st10, gt10, mo10, po10, la10, lv10, nm11, no11, svu11, svv11, svo11, sou11, sov11, soo11, st11, gt11, mo11, po11, la11, lv11, nm12, no12, svu12, svv12, svo12, sou12, sov12, soo12, st12, gt12, mo12, po12, la12, lv12, nm13, no13, svu13, svv13, svo13, sou13, sov13, soo13, st13, gt13, mo13, po13, la13, lv13, nm14, no14, svu14, svv14, svo14, sou14, sov14, soo14, st14, gt14, mo14, po14, la14, lv14, nm15, no15, svu15, svv15, svo15, sou15, sov15, soo15, st15, gt15, mo15, po15, la15, lv15, nm16, no16, svu16, svv16, svo16, sou16, sov16, soo16, st16, gt16, mo16, po16, la16, lv16, nm17, no17, svu17, svv17, svo17, sou17, sov17, soo17, st17, gt17, mo17, po17, la17, lv17, nm18, no18, svu18, svv18, svo18, sou18, sov18, soo18, st18, gt18, mo18, po18, la18, lv18, nm19, no19, svu19, svv19, svo19, sou19, sov19, soo19, st19, gt19, mo19, po19, la19, lv19, nm20, no20, svu20, svv20, svo20, sou20, sov20, soo20, st20, gt20, mo20, po20, la20, lv20, nm21, no21, svu21, svv21, svo21, sou21, sov21, soo21, st21, gt21, mo21, po21, la21, lv21, nm22, no22, svu22, svv22, svo22, sou22, sov22, soo22, st22, gt22, mo22, po22, la22, lv22, nm23, no23, svu23, svv23, svo23, sou23, sov23, soo23, st23, gt23, mo23, po23, la23, lv23, nm24, no24, svu24, svv24, svo24, sou24, sov24, soo24, st24, gt24, mo24, po24, la24, lv24, nm25, no25, svu25, svv25, svo25, sou25, sov25, soo25, st25, gt25, mo25, po25, la25, lv25, e_C, e_Seq, q_nx, q_rt, q_bk, q_ct, e_If, i_t, i_f, e_Next, e_RetN, e_Break, e_Cont, e_Ret, r_s, e_Expr, x_s, nx_s, e_Set, set_s, e_Own, own_s, e_Asg, asg_s, g_nm, g_tup, gs_nil, gs_cons, gsb_s, e_Par, par_s, par2_s, e_Par3, par3_s, e_Bin, bin_s, binC_s, binD_s, e_Un, un_s, e_Chain, ch_s, chC_s, chD_t, chD_f, e_And, and_t, and_f, e_Or, or_t, or_f, e_Not, not_s, e_IfE, ife_t, ife_f, e_Tst, tst_s, e_CAnd, e_COr, cand_t, cand_f, cor_t, cor_f, e_CNot, cnot_s, e_aN, e_aC, con_s, conC_s, e_Tup, tup_s, e_Lst, lst_s, e_Of, of_s, e_Call, call_s, callC_s, e_FCall, fcal_s, fcalC_s, e_Meth, mth_s, mthC_s, e_Sl, sl_s, slC_s, slD_s, e_oN, e_oS, o_s, e_Ixo, ixo_s, ixoA_s, ixoC_s, e_Leno, len_s, e_CallH, hcA_s, hcB_s, hcC_s, hcD_s, e_Isi, isi_int_int, isi_int_bool, isi_int_str, isi_int_list, isi_int_tuple, isi_bool_int, isi_bool_bool, isi_bool_str, isi_bool_list, isi_bool_tuple, isi_str_int, isi_str_bool, isi_str_str, isi_str_list, isi_str_tuple, isi_list_int, isi_list_bool, isi_list_str, isi_list_list, isi_list_tuple, isi_tuple_int, isi_tuple_bool, isi_tuple_str, isi_tuple_list, isi_tuple_tuple, isi_none_int, isi_none_bool, isi_none_str, isi_none_list, isi_none_tuple, e_Comp, cmp_s, cmpE_s, wp_n, wp_c, bk_n, bk_c, bks_v, bks_u, bks_o, nx_n, nx_c, nx1_v, nx1_u, nx1_o, e_For, for_s, e_iAny, any_l, any_t, any_s, e_iR1, e_iR2, e_iZp, e_iEn, rg1_s, rg2_s, zp_s, en_l, en_s, e_App, apA_s, apB_s, e_Put, ptA_s, ptB_s, ptC_s, ptD_s, d_add, d_adds, d_addl, d_muls, d_sub, d_mul, d_div, d_mod, d_neg, d_lt, d_lts, d_le, d_gt, d_ge, d_eqi, d_eqs, d_eqb, d_nei, d_nes, d_neb, d_isn, d_isnn, isN_n, isN_i, isN_b, isN_s, isN_l, isN_t, ix_t0, at_0, ix_t1, at_1, ix_t2, at_2, ix_t3, at_3, ix_t4, at_4, ix_l, c_lenl, c_lent, c_lens, c_abs, c_int, c_tupl, c_tupt, c_lst, c_lstt, c_max2, c_min2, s_list, s_tup, s_str, e_ParM, pm_s, e_mN, e_mD, md_s, mdC_s, e_mL, ml_s, mlC_s, sms_n, sms_d, sms_l, sm_s, e_Rev, rv_s, retO_rt, retO_nx, szA0, szA1, szA2, szA3, szA4, szA5, szA6, szB0, szB1, e_fSeq, fsq_s, e_fRet, fret_s, mk1, mk2, mk3, mk4, mk5, mk6, dk1, dk2, dk3, zk1, zk2, zk3, pk18, pk6, pk4, ix5_0, ix5_1, ix5_2, ix5_3, ix5_4, List.set_cons_zero, List.set_cons_succ, rtHO_rt, rtHO_nx, List.length_cons, List.length_nil, if_true, if_false, Bool.not_true, Bool.not_false, decide_true, decide_false, true_and, and_true, Bool.and_true, Bool.true_and, *])

/-! rows of a stair -/
def rowF (F : Nat → Int) (n : Nat) : List Bool := (List.range n).map fun i => decide (F i < F (i + 1))
theorem rowL_eq {p q a b k : Int} (h : ∀ n, T p q a b n = (n * p + k) / q) (n : Nat) : rowL p q a b 0 n = rowF (N.St p q k) n := by
  unfold rowL rowF
  apply List.map_congr_left
  intro i _
  rw [h, h, Int.zero_add, Int.zero_add]
  rfl
theorem rowF_len (F : Nat → Int) (n : Nat) : (rowF F n).length = n := by unfold rowF; rw [List.length_map, List.length_range]
theorem rowF_succ (F : Nat → Int) (n : Nat) : rowF F (n + 1) = rowF F n ++ [decide (F n < F (n + 1))] := by
  unfold rowF
  rw [List.range_succ, List.map_append, List.map_cons, List.map_nil]
theorem rowF_take (F : Nat → Int) {n i : Nat} (h : i ≤ n) : (rowF F n).take i = rowF F i := by
  unfold rowF
  rw [← List.map_take, List.take_range, Nat.min_eq_left h]
def Steps (F : Nat → Int) : Prop := ∀ n, F (n + 1) = F n ∨ F (n + 1) = F n + 1
theorem cnt_rowF {F : Nat → Int} (hs : Steps F) (n : Nat) : (cnt (rowF F n) : Int) = F n - F 0 := by
  induction n with
  | zero => simp [rowF, cnt]
  | succ n ih =>
    rw [rowF_succ, cnt_app, Int.natCast_add, ih]
    rcases hs n with h | h
    · rw [decide_eq_false (by omega)]; simp [cnt]; omega
    · rw [decide_eq_true (by omega)]; simp [cnt]; omega
theorem sums_rowF {F : Nat → Int} (hs : Steps F) (h0 : F 0 = 0) (n : Nat) : sumsL (rowF F n) = (List.range (n + 1)).map F := by
  unfold sumsL
  rw [rowF_len]
  apply List.map_congr_left
  intro i hi
  rw [rowF_take F (by rw [List.mem_range] at hi; omega), cnt_rowF hs, h0]; omega
theorem sums_cut {F : Nat → Int} (hs : Steps F) (h0 : F 0 = 0) (n : Nat) : dSum [.tuple (cutD ((sumsL (rowF F n)).map PyData.int) none (some (-1)))] = some (.int (N.sumF F n)) := by
  rw [sums_rowF hs h0, List.range_succ, List.map_append, List.map_append, List.map_cons, List.map_nil, List.map_cons, List.map_nil, cut_init, dSum_intsT]
  rfl
def dutK (k : Nat) (l : List Bool) : Int := (((l.zipIdx k).filter fun x => x.1).map fun x => (x.2 : Int)).sum
theorem dutK_cons (k : Nat) (b : Bool) (l : List Bool) : dutK k (b :: l) = (if b then (k : Int) else 0) + dutK (k + 1) l := by
  unfold dutK
  rw [List.zipIdx_cons]
  cases b <;> simp
theorem dutK_at (l : List Bool) : ∀ k : Nat, dutK k l = dutK 0 l + k * cnt l := by
  induction l with
  | nil => intro k; simp [dutK, cnt]
  | cons b l ih =>
    intro k
    rw [dutK_cons, dutK_cons, ih (k + 1), ih (0 + 1)]
    cases b
    · simp [cnt, Int.add_mul]; omega
    · simp [cnt, Int.add_mul, Int.mul_add]; omega
theorem dutK_app (l m : List Bool) : ∀ k : Nat, dutK k (l ++ m) = dutK k l + dutK (k + l.length) m := by
  induction l with
  | nil => intro k; simp [dutK]
  | cons b l ih =>
    intro k
    rw [List.cons_append, dutK_cons, dutK_cons, ih (k + 1), List.length_cons, show k + 1 + l.length = k + (l.length + 1) by omega]; omega
theorem dut_sum (l : List Bool) : (dutL l).sum = dutK 0 l := rfl
theorem dut_app (l m : List Bool) : (dutL (l ++ m)).sum = (dutL l).sum + (dutL m).sum + l.length * cnt m := by
  rw [dut_sum, dut_sum, dut_sum, dutK_app, dutK_at m (0 + l.length), Nat.zero_add]; omega
theorem dut_turned (l : List Bool) (a : Nat) (h : a ≤ l.length) : (dutL (l.drop a ++ l.take a)).sum = (dutL l).sum - a * cnt l + l.length * cnt (l.take a) := by
  have h1 := dut_app (l.take a) (l.drop a)
  have h2 := dut_app (l.drop a) (l.take a)
  rw [List.take_append_drop] at h1
  have h3 : cnt l = cnt (l.take a) + cnt (l.drop a) := by rw [← cnt_app, List.take_append_drop]
  rw [List.length_take, Nat.min_eq_left h] at h1
  rw [List.length_drop] at h2
  rw [h2, h1, h3]
  have e1 : ((l.length - a : Nat) : Int) * cnt (l.take a) = l.length * cnt (l.take a) - a * cnt (l.take a) := by rw [Int.ofNat_sub h, Int.sub_mul]
  rw [e1, Int.natCast_add, Int.mul_add]
  omega
theorem dutL_snoc (l : List Bool) (b : Bool) : dutL (l ++ [b]) = dutL l ++ if b then [(l.length : Int)] else [] := by
  unfold dutL
  rw [List.zipIdx_append, List.filter_append, List.map_append]
  cases b <;> simp
theorem dutL_rowF (F : Nat → Int) (n : Nat) : dutL (rowF F n) = ((List.range n).filter fun i => decide (F i < F (i + 1))).map fun i : Nat => (i : Int) := by
  induction n with
  | zero => rfl
  | succ n ih =>
    rw [rowF_succ, dutL_snoc, ih, rowF_len, List.range_succ, List.filter_append, List.map_append]
    congr 1
    cases h : decide (F n < F (n + 1)) <;> simp [h] <;> simpa using h
theorem dut_rowF {F : Nat → Int} (hs : Steps F) (n : Nat) : (dutL (rowF F n)).sum = N.sumF (fun i => (i : Int) * (F (i + 1) - F i)) n := by
  induction n with
  | zero => rfl
  | succ n ih =>
    rw [rowF_succ, dutL_snoc, List.sum_append, ih, rowF_len, N.sumF_succ]
    rcases hs n with h | h
    · rw [decide_eq_false (by omega), h]; simp
    · rw [decide_eq_true (by omega), h]; simp; rw [show F n + 1 - F n = 1 by omega]; omega
theorem one_filter {n i0 : Nat} (h : i0 < n) {c : Nat → Bool} (hc : ∀ i, i < n → (c i = true ↔ i = i0)) : (List.range n).filter c = [i0] := by
  induction n with
  | zero => omega
  | succ n ih =>
    rw [List.range_succ, List.filter_append]
    by_cases e : i0 = n
    · subst e
      have h1 : (List.range i0).filter c = [] := by
        rw [List.filter_eq_nil_iff]
        intro a ha
        rw [List.mem_range] at ha
        rw [hc a (by omega)]; omega
      rw [h1, List.filter_cons_of_pos ((hc i0 (by omega)).mpr rfl)]; rfl
    · rw [ih (by omega) fun i hi => hc i (by omega), List.filter_cons_of_neg (by rw [hc n (by omega)]; omega)]; rfl
theorem nth_val {p q a b k : Int} (hT : ∀ n, T p q a b n = (n * p + k) / q) (hp : 0 < p) (hq : 0 < q) (hb : 0 < b) (i : Nat) (h : N.St p q k (i + 1) = N.St p q k i + 1) : -((-(((N.St p q k i + 1) * b - a) * q)) / (p * b)) - 1 = i := by
  have h1 : T p q a b ((i : Int) + 1) = N.St p q k i + 1 := by rw [hT, ← h]; rfl
  have h2 : T p q a b (i : Int) = N.St p q k i := by rw [hT]; rfl
  generalize N.St p q k i = j at h1 h2 h ⊢
  unfold T at h1 h2
  have hqb : 0 < q * b := Int.mul_pos hq hb
  have h3 := (Int.le_ediv_iff_mul_le hqb).mp (Int.le_of_eq h1.symm)
  have h4 := (Int.ediv_lt_iff_lt_mul hqb).mp (show ((i : Int) * p * b + a * q) / (q * b) < j + 1 by omega)
  have e1 : ((j + 1) * b - a) * q = (j + 1) * (q * b) - a * q := by rw [Int.sub_mul, Int.mul_assoc, Int.mul_comm b q]
  have e2 : ((i : Int) + 1) * p * b = i * p * b + p * b := by rw [Int.add_mul, Int.add_mul, Int.one_mul]
  have e3 : ((i : Int)) * p * b = p * b * i := by rw [Int.mul_assoc, Int.mul_comm]
  rw [e2] at h3
  rw [e1]
  rw [e3] at h3 h4
  generalize (j + 1) * (q * b) = Y at *
  generalize a * q = Z at *
  have hpb : 0 < p * b := Int.mul_pos hp hb
  generalize p * b = c at *
  have h5 : -(Y - Z) = (c * i + c - (Y - Z)) + c * (-(i : Int) - 1) := by rw [Int.mul_sub, Int.mul_neg, Int.mul_one]; omega
  have h6 : (c * i + c - (Y - Z)) / c = 0 := Int.ediv_eq_zero_of_lt (by omega) (by omega)
  rw [h5, Int.add_mul_ediv_left _ _ (by omega), h6]
  omega
end W.S

set_option maxHeartbeats 4000000
namespace W.S
open PySem PySem.Spec PyProof.Rows L2 PL
local macro_rules | `(tactic| walk_at "ev") => `(tactic| simp only [nm0, no0, svu0, svv0, svo0, sou0, sov0, soo0, st0, gt0, mo0, po0, la0, lv0, me0, pe0, le0, nm1, no1, svu1, svv1, svo1, sou1, sov1, soo1, st1, gt1, mo1, po1, la1, lv1, me1, pe1, le1, nm2, no2, svu2, svv2, svo2, sou2, sov2, soo2, st2, gt2, mo2, po2, la2, lv2, me2, pe2, le2, nm3, no3, svu3, svv3, svo3, sou3, sov3, soo3, st3, gt3, mo3, po3, la3, lv3, nm4, no4, svu4, svv4, svo4, sou4, sov4, soo4, st4, gt4, mo4, po4, la4, lv4, nm5, no5, svu5, svv5, svo5, sou5, sov5, soo5, st5, gt5, mo5, po5, la5, lv5, nm6, no6, svu6, svv6, svo6, sou6, sov6, soo6, st6, gt6, mo6, po6, la6, lv6, nm7, no7, svu7, svv7, svo7, sou7, sov7, soo7, st7, gt7, mo7, po7, la7, lv7, nm8, no8, svu8, svv8, svo8, sou8, sov8, soo8, st8, gt8, mo8, po8, la8, lv8, nm9, no9, svu9, svv9, svo9, sou9, sov9, soo9, st9, gt9, mo9, po9, la9, lv9, nm10, no10, svu10, svv10, svo10, sou10, sov10, soo10, st10, gt10, mo10, po10, la10, lv10, nm11, no11, svu11, svv11, svo11, sou11, sov11, soo11, st11, gt11, mo11, po11, la11, lv11, nm12, no12, svu12, svv12, svo12, sou12, sov12, soo12, st12, gt12, mo12, po12, la12, lv12, nm13, no13, svu13, svv13, svo13, sou13, sov13, soo13, st13, gt13, mo13, po13, la13, lv13, nm14, no14, svu14, svv14, svo14, sou14, sov14, soo14, st14, gt14, mo14, po14, la14, lv14, nm15, no15, svu15, svv15, svo15, sou15, sov15, soo15, st15, gt15, mo15, po15, la15, lv15, nm16, no16, svu16, svv16, svo16, sou16, sov16, soo16, st16, gt16, mo16, po16, la16, lv16, nm17, no17, svu17, svv17, svo17, sou17, sov17, soo17, st17, gt17, mo17, po17, la17, lv17, nm18, no18, svu18, svv18, svo18, sou18, sov18, soo18, st18, gt18, mo18, po18, la18, lv18, nm19, no19, svu19, svv19, svo19, sou19, sov19, soo19, st19, gt19, mo19, po19, la19, lv19, nm20, no20, svu20, svv20, svo20, sou20, sov20, soo20, st20, gt20, mo20, po20, la20, lv20, nm21, no21, svu21, svv21, svo21, sou21, sov21, soo21, st21, gt21, mo21, po21, la21, lv21, nm22, no22, svu22, svv22, svo22, sou22, sov22, soo22, st22, gt22, mo22, po22, la22, lv22, nm23, no23, svu23, svv23, svo23, sou23, sov23, soo23, st23, gt23, mo23, po23, la23, lv23, nm24, no24, svu24, svv24, svo24, sou24, sov24, soo24, st24, gt24, mo24, po24, la24, lv24, nm25, no25, svu25, svv25, svo25, sou25, sov25, soo25, st25, gt25, mo25, po25, la25, lv25, e_C, e_Seq, q_nx, q_rt, q_bk, q_ct, e_If, i_t, i_f, e_Next, e_RetN, e_Break, e_Cont, e_Ret, r_s, e_Expr, x_s, nx_s, e_Set, set_s, e_Own, own_s, e_Asg, asg_s, g_nm, g_tup, gs_nil, gs_cons, gsb_s, e_Par, par_s, par2_s, e_Par3, par3_s, e_Bin, bin_s, binC_s, binD_s, e_Un, un_s, e_Chain, ch_s, chC_s, chD_t, chD_f, e_And, and_t, and_f, e_Or, or_t, or_f, e_Not, not_s, e_IfE, ife_t, ife_f, e_Tst, tst_s, e_CAnd, e_COr, cand_t, cand_f, cor_t, cor_f, e_CNot, cnot_s, e_aN, e_aC, con_s, conC_s, e_Tup, tup_s, e_Lst, lst_s, e_Of, of_s, e_Call, call_s, callC_s, e_FCall, fcal_s, fcalC_s, e_Meth, mth_s, mthC_s, e_Sl, sl_s, slC_s, slD_s, e_oN, e_oS, o_s, e_Ixo, ixo_s, ixoA_s, ixoC_s, e_Leno, len_s, e_CallH, hcA_s, hcB_s, hcC_s, hcD_s, e_Isi, isi_int_int, isi_int_bool, isi_int_str, isi_int_list, isi_int_tuple, isi_bool_int, isi_bool_bool, isi_bool_str, isi_bool_list, isi_bool_tuple, isi_str_int, isi_str_bool, isi_str_str, isi_str_list, isi_str_tuple, isi_list_int, isi_list_bool, isi_list_str, isi_list_list, isi_list_tuple, isi_tuple_int, isi_tuple_bool, isi_tuple_str, isi_tuple_list, isi_tuple_tuple, isi_none_int, isi_none_bool, isi_none_str, isi_none_list, isi_none_tuple, e_Comp, cmp_s, cmpE_s, wp_n, wp_c, bk_n, bk_c, bks_v, bks_u, bks_o, nx_n, nx_c, nx1_v, nx1_u, nx1_o, e_For, for_s, e_iAny, any_l, any_t, any_s, e_iR1, e_iR2, e_iZp, e_iEn, rg1_s, rg2_s, zp_s, en_l, en_s, e_App, apA_s, apB_s, e_Put, ptA_s, ptB_s, ptC_s, ptD_s, d_add, d_adds, d_addl, d_muls, d_sub, d_mul, d_div, d_mod, d_neg, d_lt, d_lts, d_le, d_gt, d_ge, d_eqi, d_eqs, d_eqb, d_nei, d_nes, d_neb, d_isn, d_isnn, isN_n, isN_i, isN_b, isN_s, isN_l, isN_t, ix_t0, at_0, ix_t1, at_1, ix_t2, at_2, ix_t3, at_3, ix_t4, at_4, ix_l, c_lenl, c_lent, c_lens, c_abs, c_int, c_tupl, c_tupt, c_lst, c_lstt, c_max2, c_min2, s_list, s_tup, s_str, e_ParM, pm_s, e_mN, e_mD, md_s, mdC_s, e_mL, ml_s, mlC_s, sms_n, sms_d, sms_l, sm_s, e_Rev, rv_s, retO_rt, retO_nx, szA0, szA1, szA2, szA3, szA4, szA5, szA6, szB0, szB1, e_fSeq, fsq_s, e_fRet, fret_s, mk1, mk2, mk3, mk4, mk5, mk6, dk1, dk2, dk3, zk1, zk2, zk3, pk18, pk6, pk4, ix5_0, ix5_1, ix5_2, ix5_3, ix5_4, List.set_cons_zero, List.set_cons_succ, rtHO_rt, rtHO_nx, List.length_cons, List.length_nil, if_true, if_false, Bool.not_true, Bool.not_false, decide_true, decide_false, true_and, and_true, Bool.and_true, Bool.true_and, *])

/-! rounds derived -/
theorem range_end {α : Type} (f : Nat → α) (m : Nat) (x : α) (h : f (m + 1) = x) : ((List.range m).map fun j => f (j + 1)) ++ [x] = (List.range (m + 1)).map fun j => f (j + 1) := by
  rw [List.range_succ, List.map_append, List.map_cons, List.map_nil, h]
theorem s_round_gaps (l : List Bool) (hn : l.length ≤ 500) (m : Nat) (f : Nat → Int) (hm : m ≤ 500) (hd : dutL l = (List.range (m + 1)).map f) (hf : f (m + 1) = f 0 + l.length) :
    m_round_gaps [.str (rw_ l)] = some (.list ((List.range (m + 1)).map fun j => .int (f (j + 1) - f j))) := by
  have h1 := s_duties_of l hn
  have e1 : (dutL l).map PyData.int = (List.range (m + 1)).map fun j => PyData.int (f j) := by rw [hd, List.map_map]; rfl
  rw [e1] at h1
  have k0 : (rw_ l).length ≤ sizeLine := by rw [rw_len]; exact sz (by omega)
  have c1 := range_drop m fun j => PyData.int (f j)
  have c2 : atI ((List.range (m + 1)).map fun j => PyData.int (f j)) 0 = some (.int (f 0)) := atI_range (F := fun j => PyData.int (f j)) (i := 0) (by omega)
  have c3 : (((List.range m).map fun j => PyData.int (f (j + 1))) ++ [PyData.int (f 0 + (rw_ l).length)]) = (List.range (m + 1)).map fun j => PyData.int (f (j + 1)) := range_end (fun j => PyData.int (f j)) m _ (by rw [hf, rw_len])
  have c4 : ((List.range m).map fun j => PyData.int (f (j + 1))).length + (0 + 1) ≤ sizeLine := sz (by rw [List.length_map, List.length_range]; omega)
  have c5 := prs_map (fun j : Nat => PyData.int (f j)) (fun j => PyData.int (f (j + 1))) (List.range (m + 1))
  generalize hA : ((List.range (m + 1)).map fun j => PyData.int (f j)) = A at h1 c1 c2 c5
  generalize hB : ((List.range (m + 1)).map fun j => PyData.int (f (j + 1))) = B at c3 c5
  have c6 := comp_ofM (e0 := [.val (.str (rw_ l)), .val (.list A), .val (.list B), .un, .un]) (g := gTupD 2 (gsCons (gNm 3) (gsCons (gNm 4) gsNil))) (t := cYes) (vs := [3, 4]) (me := eBin dSub (eNm 4) (eNm 3)) (ι := fun j => PyData.tuple [PyData.int (f j), PyData.int (f (j + 1))]) (f := fun j => PyData.int (f (j + 1) - f j)) (List.range (m + 1)) fun j hj => by
    clear h1 c1 c2 c3 c5 hA hB hj
    exact ⟨[.val (.str (rw_ l)), .val (.list A), .val (.list B), .val (.int (f j)), .val (.int (f (j + 1)))], by walk_at "ev", rfl, by walk_at "ev", rfl⟩
  have c7 : ((List.range (m + 1)).map fun j => PyData.int (f (j + 1) - f j)).length ≤ sizeLine := sz (by rw [List.length_map, List.length_range]; omega)
  have hq : q_round_gaps_1 [.val (.str (rw_ l)), .val (.list A), .val (.list B), .un, .un] = some ((List.range (m + 1)).map fun j => PyData.int (f (j + 1) - f j), [.val (.str (rw_ l)), .val (.list A), .val (.list B), .un, .un]) := by
    clear h1 c1 c2 c3 hA hB hf hd e1
    unfold q_round_gaps_1
    walk_at "ev"
  clear c5 c6 c7 hA hB hf hd e1
  refine mD_ev rfl ?_
  show retO (t_round_gaps [.val (.str (rw_ l)), .un, .un, .un, .un]) = _
  unfold t_round_gaps
  walk_at "ev"
theorem s_check_duty (l : List Bool) (n1 : 1 ≤ l.length) (hn : l.length ≤ 500) (ha : l.any id = true) : m_check_duty [.str (rw_ l)] = some .none := by
  have h1 := s_check_row l n1 hn
  have h2 := dNotIn_one l
  refine mD_ev rfl ?_
  show retO (t_check_duty [.val (.str (rw_ l))]) = _
  unfold t_check_duty
  walk_at "ev"
theorem s_gaps_of (l : List Bool) (n1 : 1 ≤ l.length) (hn : l.length ≤ 500) (ha : l.any id = true) {G : List D} (hg : m_round_gaps [.str (rw_ l)] = some (.list G)) : m_gaps_of [.str (rw_ l)] = some (.tuple G) := by
  have h1 := s_check_duty l n1 hn ha
  refine mD_ev rfl ?_
  show retO (t_gaps_of [.val (.str (rw_ l))]) = _
  unfold t_gaps_of
  walk_at "ev"
theorem s_derived_of (l : List Bool) (hn : l.length ≤ 500) (m : Nat) (g : Nat → Int) (d : Int) (hm : m ≤ 500) (hd : ((l.length : Nat) : Int) / ((m + 1 : Nat) : Int) = d) (hg : m_round_gaps [.str (rw_ l)] = some (.list ((List.range (m + 1)).map fun j => .int (g j)))) (hd2 : ∀ j, j < m + 1 → g j = d ∨ g j = d + 1) :
    m_derived_of [.str (rw_ l)] = some (.tuple [.str (rw_ ((List.range (m + 1)).map fun j => decide (d < g j))), .int d]) := by
  have k0 : (rw_ l).length ≤ sizeLine := by rw [rw_len]; exact sz (by omega)
  have k1 : ((rw_ l).length : Int) / (((List.range (m + 1)).map fun j => PyData.int (g j)).length : Nat) = d := by rw [rw_len, List.length_map, List.length_range]; exact hd
  have k2 : DivOk (((List.range (m + 1)).map fun j => PyData.int (g j)).length : Nat) := by rw [List.length_map, List.length_range]; exact DivOk.s (by omega) (by omega)
  have c1 := comp_ofM (e0 := [.val (.str (rw_ l)), .val (.list ((List.range (m + 1)).map fun j => PyData.int (g j))), .val (.int d), .un]) (g := gNm 3) (t := cYes) (vs := [3]) (me := (eIf (tst (eBin dGt (eNm 3) (eNm 2))) (eC (.str "1")) (eC (.str "0")))) (ι := fun j => PyData.int (g j)) (f := fun j => PyData.str (sgn (decide (d < g j)))) (List.range (m + 1)) fun j hj => by
    refine ⟨[.val (.str (rw_ l)), .val (.list ((List.range (m + 1)).map fun j => PyData.int (g j))), .val (.int d), .val (.int (g j))], rfl, rfl, ?_, rfl⟩
    clear hd hg hd2 k1 k2 hj
    cases hc : decide (d < g j)
    · skip
      walk_at "ev"; try rfl
    · skip
      walk_at "ev"; try rfl
  have c2 := comp_ofM (e0 := [.val (.str (rw_ l)), .val (.list ((List.range (m + 1)).map fun j => PyData.int (g j))), .val (.int d), .un]) (g := gNm 3) (t := cYes) (vs := [3]) (me := (eBin dIn (eNm 3) (eTup (aCons (eNm 2) (aCons (eBin dAdd (eNm 2) (eC (.int 1))) aNil))))) (ι := fun j => PyData.int (g j)) (f := fun _ => PyData.bool true) (List.range (m + 1)) fun j hj => by
    refine ⟨[.val (.str (rw_ l)), .val (.list ((List.range (m + 1)).map fun j => PyData.int (g j))), .val (.int d), .val (.int (g j))], rfl, rfl, ?_, rfl⟩
    have h4 : dIn (.int (g j)) (.tuple [.int d, .int (d + 1)]) = some (.bool true) := by
      have h5 := dIn_intsT [d, d + 1] (g j)
      have h6 : g j ∈ [d, d + 1] := by
        rcases hd2 j (List.mem_range.mp hj) with h | h <;> simp [h]
      rw [decide_eq_true h6] at h5
      show (dInB _ _).map PyData.bool = _
      rw [show (PyData.tuple [.int d, .int (d + 1)]) = .tuple ([d, d + 1].map PyData.int) from rfl, h5]; rfl
    clear hd hg hd2 k1 k2 hj
    walk_at "ev"
  have c3 : ((List.range (m + 1)).map fun j => PyData.str (sgn (decide (d < g j)))).length ≤ sizeLine := sz (by rw [List.length_map, List.length_range]; omega)
  have c4 : ((List.range (m + 1)).map fun _ => PyData.bool true).length ≤ sizeLine := sz (by rw [List.length_map, List.length_range]; omega)
  have c5 : dAll [.list ((List.range (m + 1)).map fun _ => PyData.bool true)] = some (.bool true) := by
    have hb : boolsOf ((List.range (m + 1)).map fun _ => PyData.bool true) = some ((List.range (m + 1)).map fun _ => true) := by
      rw [← boolsOf_map, List.map_map]; rfl
    show (boolsOf _).map _ = _
    rw [hb]
    simp
  have c6 := dJoin_rw ((List.range (m + 1)).map fun j => decide (d < g j)) (by rw [List.length_map, List.length_range]; omega)
  rw [List.map_map] at c6
  replace c6 : dJoin (.str "") [.list ((List.range (m + 1)).map fun j => PyData.str (sgn (decide (d < g j))))] = some (.str (rw_ ((List.range (m + 1)).map fun j => decide (d < g j)))) := c6
  have q1 : q_derived_of_1 [.val (.str (rw_ l)), .val (.list ((List.range (m + 1)).map fun j => PyData.int (g j))), .val (.int d), .un] = some ((List.range (m + 1)).map fun j => PyData.str (sgn (decide (d < g j))), [.val (.str (rw_ l)), .val (.list ((List.range (m + 1)).map fun j => PyData.int (g j))), .val (.int d), .un]) := by
    clear hd hg hd2 k1 k2 c6
    unfold q_derived_of_1
    walk_at "ev"
  have q2 : q_derived_of_2 [.val (.str (rw_ l)), .val (.list ((List.range (m + 1)).map fun j => PyData.int (g j))), .val (.int d), .un] = some ((List.range (m + 1)).map fun _ => PyData.bool true, [.val (.str (rw_ l)), .val (.list ((List.range (m + 1)).map fun j => PyData.int (g j))), .val (.int d), .un]) := by
    clear hd hg hd2 k1 k2 c6 c5
    unfold q_derived_of_2
    walk_at "ev"
  clear hd hd2 c1 c2 c3 c4
  refine mD_ev rfl ?_
  show retO (t_derived_of [.val (.str (rw_ l)), .un, .un, .un]) = _
  unfold t_derived_of
  walk_at "ev"
theorem s_derived (l : List Bool) (n1 : 1 ≤ l.length) (hn : l.length ≤ 500) (ha : l.any id = true) {d : D} (hg : m_derived_of [.str (rw_ l)] = some d) : m_derived [.str (rw_ l)] = some d := by
  have h1 := s_check_duty l n1 hn ha
  refine mD_ev rfl ?_
  show retO (t_derived [.val (.str (rw_ l))]) = _
  unfold t_derived
  walk_at "ev"
end W.S

set_option maxHeartbeats 4000000
namespace W.S
open PySem PySem.Spec PyProof.Rows L2 PL
local macro_rules | `(tactic| walk_at "ev") => `(tactic| simp only [nm0, no0, svu0, svv0, svo0, sou0, sov0, soo0, st0, gt0, mo0, po0, la0, lv0, me0, pe0, le0, nm1, no1, svu1, svv1, svo1, sou1, sov1, soo1, st1, gt1, mo1, po1, la1, lv1, me1, pe1, le1, nm2, no2, svu2, svv2, svo2, sou2, sov2, soo2, st2, gt2, mo2, po2, la2, lv2, me2, pe2, le2, nm3, no3, svu3, svv3, svo3, sou3, sov3, soo3, st3, gt3, mo3, po3, la3, lv3, nm4, no4, svu4, svv4, svo4, sou4, sov4, soo4, st4, gt4, mo4, po4, la4, lv4, nm5, no5, svu5, svv5, svo5, sou5, sov5, soo5, st5, gt5, mo5, po5, la5, lv5, nm6, no6, svu6, svv6, svo6, sou6, sov6, soo6, st6, gt6, mo6, po6, la6, lv6, nm7, no7, svu7, svv7, svo7, sou7, sov7, soo7, st7, gt7, mo7, po7, la7, lv7, nm8, no8, svu8, svv8, svo8, sou8, sov8, soo8, st8, gt8, mo8, po8, la8, lv8, nm9, no9, svu9, svv9, svo9, sou9, sov9, soo9, st9, gt9, mo9, po9, la9, lv9, nm10, no10, svu10, svv10, svo10, sou10, sov10, soo10, st10, gt10, mo10, po10, la10, lv10, nm11, no11, svu11, svv11, svo11, sou11, sov11, soo11, st11, gt11, mo11, po11, la11, lv11, nm12, no12, svu12, svv12, svo12, sou12, sov12, soo12, st12, gt12, mo12, po12, la12, lv12, nm13, no13, svu13, svv13, svo13, sou13, sov13, soo13, st13, gt13, mo13, po13, la13, lv13, nm14, no14, svu14, svv14, svo14, sou14, sov14, soo14, st14, gt14, mo14, po14, la14, lv14, nm15, no15, svu15, svv15, svo15, sou15, sov15, soo15, st15, gt15, mo15, po15, la15, lv15, nm16, no16, svu16, svv16, svo16, sou16, sov16, soo16, st16, gt16, mo16, po16, la16, lv16, nm17, no17, svu17, svv17, svo17, sou17, sov17, soo17, st17, gt17, mo17, po17, la17, lv17, nm18, no18, svu18, svv18, svo18, sou18, sov18, soo18, st18, gt18, mo18, po18, la18, lv18, nm19, no19, svu19, svv19, svo19, sou19, sov19, soo19, st19, gt19, mo19, po19, la19, lv19, nm20, no20, svu20, svv20, svo20, sou20, sov20, soo20, st20, gt20, mo20, po20, la20, lv20, nm21, no21, svu21, svv21, svo21, sou21, sov21, soo21, st21, gt21, mo21, po21, la21, lv21, nm22, no22, svu22, svv22, svo22, sou22, sov22, soo22, st22, gt22, mo22, po22, la22, lv22, nm23, no23, svu23, svv23, svo23, sou23, sov23, soo23, st23, gt23, mo23, po23, la23, lv23, nm24, no24, svu24, svv24, svo24, sou24, sov24, soo24, st24, gt24, mo24, po24, la24, lv24, nm25, no25, svu25, svv25, svo25, sou25, sov25, soo25, st25, gt25, mo25, po25, la25, lv25, e_C, e_Seq, q_nx, q_rt, q_bk, q_ct, e_If, i_t, i_f, e_Next, e_RetN, e_Break, e_Cont, e_Ret, r_s, e_Expr, x_s, nx_s, e_Set, set_s, e_Own, own_s, e_Asg, asg_s, g_nm, g_tup, gs_nil, gs_cons, gsb_s, e_Par, par_s, par2_s, e_Par3, par3_s, e_Bin, bin_s, binC_s, binD_s, e_Un, un_s, e_Chain, ch_s, chC_s, chD_t, chD_f, e_And, and_t, and_f, e_Or, or_t, or_f, e_Not, not_s, e_IfE, ife_t, ife_f, e_Tst, tst_s, e_CAnd, e_COr, cand_t, cand_f, cor_t, cor_f, e_CNot, cnot_s, e_aN, e_aC, con_s, conC_s, e_Tup, tup_s, e_Lst, lst_s, e_Of, of_s, e_Call, call_s, callC_s, e_FCall, fcal_s, fcalC_s, e_Meth, mth_s, mthC_s, e_Sl, sl_s, slC_s, slD_s, e_oN, e_oS, o_s, e_Ixo, ixo_s, ixoA_s, ixoC_s, e_Leno, len_s, e_CallH, hcA_s, hcB_s, hcC_s, hcD_s, e_Isi, isi_int_int, isi_int_bool, isi_int_str, isi_int_list, isi_int_tuple, isi_bool_int, isi_bool_bool, isi_bool_str, isi_bool_list, isi_bool_tuple, isi_str_int, isi_str_bool, isi_str_str, isi_str_list, isi_str_tuple, isi_list_int, isi_list_bool, isi_list_str, isi_list_list, isi_list_tuple, isi_tuple_int, isi_tuple_bool, isi_tuple_str, isi_tuple_list, isi_tuple_tuple, isi_none_int, isi_none_bool, isi_none_str, isi_none_list, isi_none_tuple, e_Comp, cmp_s, cmpE_s, wp_n, wp_c, bk_n, bk_c, bks_v, bks_u, bks_o, nx_n, nx_c, nx1_v, nx1_u, nx1_o, e_For, for_s, e_iAny, any_l, any_t, any_s, e_iR1, e_iR2, e_iZp, e_iEn, rg1_s, rg2_s, zp_s, en_l, en_s, e_App, apA_s, apB_s, e_Put, ptA_s, ptB_s, ptC_s, ptD_s, d_add, d_adds, d_addl, d_muls, d_sub, d_mul, d_div, d_mod, d_neg, d_lt, d_lts, d_le, d_gt, d_ge, d_eqi, d_eqs, d_eqb, d_nei, d_nes, d_neb, d_isn, d_isnn, isN_n, isN_i, isN_b, isN_s, isN_l, isN_t, ix_t0, at_0, ix_t1, at_1, ix_t2, at_2, ix_t3, at_3, ix_t4, at_4, ix_l, c_lenl, c_lent, c_lens, c_abs, c_int, c_tupl, c_tupt, c_lst, c_lstt, c_max2, c_min2, s_list, s_tup, s_str, e_ParM, pm_s, e_mN, e_mD, md_s, mdC_s, e_mL, ml_s, mlC_s, sms_n, sms_d, sms_l, sm_s, e_Rev, rv_s, retO_rt, retO_nx, szA0, szA1, szA2, szA3, szA4, szA5, szA6, szB0, szB1, e_fSeq, fsq_s, e_fRet, fret_s, mk1, mk2, mk3, mk4, mk5, mk6, dk1, dk2, dk3, zk1, zk2, zk3, pk18, pk6, pk4, ix5_0, ix5_1, ix5_2, ix5_3, ix5_4, List.set_cons_zero, List.set_cons_succ, rtHO_rt, rtHO_nx, List.length_cons, List.length_nil, if_true, if_false, Bool.not_true, Bool.not_false, decide_true, decide_false, true_and, and_true, Bool.and_true, Bool.true_and, *])

open N (St)
theorem st_val {p q k : Int} (hq : 0 < q) (i : Nat) : q * N.St p q k i ≤ i * p + k ∧ i * p + k < q * N.St p q k i + q := by
  have h1 := Int.mul_ediv_add_emod ((i : Int) * p + k) q
  have h2 := Int.emod_nonneg ((i : Int) * p + k) (show q ≠ 0 by omega)
  have h3 := Int.emod_lt_of_pos ((i : Int) * p + k) hq
  unfold N.St
  omega
theorem st_succ {p : Int} (i : Nat) : ((i + 1 : Nat) : Int) * p = i * p + p := by rw [Int.natCast_succ, Int.add_mul, Int.one_mul]
/-- the day of the j-th duty -/
theorem nth_day {p q k : Int} (hp : 0 < p) (hq : 0 < q) (i : Nat) (h : N.St p q k (i + 1) = N.St p q k i + 1) : (N.St p q k i * q + (q - k - 1)) / p = i := by
  have h1 := st_val (p := p) (k := k) hq i
  have h2 := st_val (p := p) (k := k) hq (i + 1)
  rw [h, st_succ] at h2
  generalize N.St p q k i = j at *
  have e1 : q * (j + 1) = q * j + q := by rw [Int.mul_add, Int.mul_one]
  rw [e1] at h2
  have e2 : j * q + (q - k - 1) = (j * q + (q - k - 1) - i * p) + p * i := by rw [Int.mul_comm p]; omega
  have e3 : j * q = q * j := Int.mul_comm _ _
  have e4 : (j * q + (q - k - 1) - i * p) / p = 0 := Int.ediv_eq_zero_of_lt (by omega) (by omega)
  rw [e2, Int.add_mul_ediv_left _ _ (by omega), e4, Int.zero_add]
theorem dut_nth {F : Nat → Int} {nth : Int → Int} (h0 : F 0 = 0) (hs : Steps F) (hm : ∀ n, 0 ≤ F n) (n : Nat) (hn : ∀ i : Nat, i < n → F (i + 1) = F i + 1 → nth (F i) = i) : dutL (rowF F n) = (List.range (F n).toNat).map fun j : Nat => nth j := by
  induction n with
  | zero => rw [h0]; rfl
  | succ n ih =>
    have ih' := ih fun i hi => hn i (by omega)
    rw [rowF_succ, dutL_snoc, ih', rowF_len]
    rcases hs n with h | h
    · rw [decide_eq_false (by omega), h]; simp
    · have h1 := hm n
      have h2 := hn n (by omega) h
      have h3 : (((F n).toNat : Nat) : Int) = F n := by omega
      rw [decide_eq_true (by omega), h, show (F n + 1).toNat = (F n).toNat + 1 by omega, List.range_succ, List.map_append]
      simp only [List.map_cons, List.map_nil, h3, h2, if_true]
theorem steps' {p q k : Int} (hq : 0 < q) (p0 : 0 ≤ p) (pq : p ≤ q) : Steps (N.St p q k) := fun n => N.St_step hq p0 pq n
theorem St_nn {p q k : Int} (hq : 0 < q) (p0 : 0 ≤ p) (k0 : 0 ≤ k) (n : Nat) : 0 ≤ N.St p q k n := Int.ediv_nonneg (Int.add_nonneg (Int.mul_nonneg (by omega) p0) k0) (by omega)
theorem St_round {p k : Int} {n : Nat} (hq : 0 < n) (k0 : 0 ≤ k) (kq : k < n) : N.St p n k n = p := by
  have := N.St_shift (p := p) (k := k) (q := n) (by omega) 0 (n := n) rfl 1
  rw [N.St_zero k0 (by omega), Nat.add_zero, Nat.one_mul] at this
  omega
/-- days of duty of a round -/
theorem dut_round {m n : Nat} {k : Int} (hm : m + 1 ≤ n) (k0 : 0 ≤ k) (kq : k < n) : dutL (rowF (N.St ((m + 1 : Nat) : Int) n k) n) = (List.range (m + 1)).map fun j : Nat => ((j : Int) * n + (n - k - 1)) / ((m + 1 : Nat) : Int) := by
  have h := dut_nth (F := N.St ((m + 1 : Nat) : Int) n k) (nth := fun j => (j * n + (n - k - 1)) / ((m + 1 : Nat) : Int)) (N.St_zero k0 kq) (steps' (by omega) (by omega) (by omega)) (St_nn (by omega) (by omega) k0) n fun i _ hi => nth_day (by omega) (by omega) i hi
  rw [St_round (by omega) k0 kq, Int.toNat_natCast] at h
  exact h
/-- distances of duties -/
theorem gap_eq {p q c : Int} (hp : 0 < p) (j : Int) : (j * q + c) / p = j * (q / p) + (j * (q % p) + c) / p := by
  have h1 := Int.mul_ediv_add_emod q p
  have e : j * q + c = (j * (q % p) + c) + p * (j * (q / p)) := by
    have : j * q = j * (p * (q / p)) + j * (q % p) := by rw [← Int.mul_add, h1]
    rw [this, Int.mul_left_comm p]; omega
  rw [e, Int.add_mul_ediv_left _ _ (by omega)]; omega
theorem shift_c {r p c : Int} (hp : 0 < p) (j : Int) : (j * r + c) / p = (j * r + c % p) / p + c / p := by
  have h1 := Int.mul_ediv_add_emod c p
  have e : j * r + c = (j * r + c % p) + p * (c / p) := by omega
  rw [e, Int.add_mul_ediv_left _ _ (by omega)]
theorem gap_nat {p q c : Int} (hp : 0 < p) (j : Nat) : (((j + 1 : Nat) : Int) * q + c) / p - ((j : Int) * q + c) / p = q / p + (N.St (q % p) p (c % p) (j + 1) - N.St (q % p) p (c % p) j) := by
  rw [gap_eq hp, gap_eq hp (j : Int), shift_c hp, shift_c hp (j : Int)]
  unfold N.St
  rw [Int.natCast_succ, Int.add_mul, Int.one_mul]
  omega
theorem s_gaps {m n : Nat} {k : Int} (hm : m + 1 ≤ n) (n5 : n ≤ 500) (k0 : 0 ≤ k) (kq : k < n) :
    m_round_gaps [.str (rw_ (rowF (N.St ((m + 1 : Nat) : Int) n k) n))] = some (.list ((List.range (m + 1)).map fun j : Nat => .int ((n : Int) / ((m + 1 : Nat) : Int) + (N.St ((n : Int) % ((m + 1 : Nat) : Int)) ((m + 1 : Nat) : Int) (((n : Int) - k - 1) % ((m + 1 : Nat) : Int)) (j + 1) - N.St ((n : Int) % ((m + 1 : Nat) : Int)) ((m + 1 : Nat) : Int) (((n : Int) - k - 1) % ((m + 1 : Nat) : Int)) j)))) := by
  have h := s_round_gaps (rowF (N.St ((m + 1 : Nat) : Int) n k) n) (by rw [rowF_len]; omega) m (fun j : Nat => ((j : Int) * n + (n - k - 1)) / ((m + 1 : Nat) : Int)) (by omega) (dut_round hm k0 kq) (by
    rw [rowF_len]
    have e : ((m + 1 : Nat) : Int) * n + (n - k - 1) = ((0 : Nat) * (n : Int) + (n - k - 1)) + ((m + 1 : Nat) : Int) * n := by simp; omega
    rw [e, Int.add_mul_ediv_left _ _ (by omega)])
  rw [h]
  congr 2
  apply List.map_congr_left
  intro j _
  rw [gap_nat (by omega)]
theorem s_der {m n : Nat} {k : Int} (hm : m + 1 ≤ n) (n5 : n ≤ 500) (k0 : 0 ≤ k) (kq : k < n) :
    m_derived_of [.str (rw_ (rowF (N.St ((m + 1 : Nat) : Int) n k) n))] = some (.tuple [.str (rw_ (rowF (N.St ((n : Int) % ((m + 1 : Nat) : Int)) ((m + 1 : Nat) : Int) (((n : Int) - k - 1) % ((m + 1 : Nat) : Int))) (m + 1))), .int ((n : Int) / ((m + 1 : Nat) : Int))]) := by
  have hp : (0 : Int) < ((m + 1 : Nat) : Int) := by omega
  have hr0 := Int.emod_nonneg (n : Int) (show ((m + 1 : Nat) : Int) ≠ 0 by omega)
  have hr1 := Int.emod_lt_of_pos (n : Int) hp
  have h := s_derived_of _ (by rw [rowF_len]; omega) m _ ((n : Int) / ((m + 1 : Nat) : Int)) (by omega) (by rw [rowF_len]) (s_gaps hm n5 k0 kq) fun j _ => by
    rcases N.St_step (p := (n : Int) % ((m + 1 : Nat) : Int)) (q := ((m + 1 : Nat) : Int)) (k := ((n : Int) - k - 1) % ((m + 1 : Nat) : Int)) hp hr0 (by omega) j with h | h <;> omega
  rw [h]
  congr 6
  funext j
  congr 1
  exact propext ⟨fun h => by omega, fun h => by omega⟩
theorem any_rowF {m n : Nat} {k : Int} (hm : m + 1 ≤ n) (k0 : 0 ≤ k) (kq : k < n) : (rowF (N.St ((m + 1 : Nat) : Int) n k) n).any id = true := by
  have h := cnt_rowF (F := N.St ((m + 1 : Nat) : Int) n k) (steps' (by omega) (by omega) (by omega)) n
  rw [St_round (by omega) k0 kq, N.St_zero k0 kq] at h
  have h2 : 0 < (rowF (N.St ((m + 1 : Nat) : Int) n k) n).countP id := by
    have : 0 < cnt (rowF (N.St ((m + 1 : Nat) : Int) n k) n) := by omega
    exact this
  rw [List.countP_pos_iff] at h2
  exact List.any_eq_true.mpr h2
theorem any_zero {n : Nat} {k : Int} : (rowF (N.St 0 n k) n).any id = false := by
  rw [List.any_eq_false]
  intro b hb
  unfold rowF at hb
  obtain ⟨i, _, rfl⟩ := List.mem_map.mp hb
  unfold N.St
  simp
/-- the quotients of a ladder -/
def cf : Nat → Nat → List Int
  | 0, _ => []
  | m + 1, n => ((n : Int) / ((m + 1 : Nat) : Int)) :: cf (n % (m + 1)) (m + 1)
termination_by p _ => p
decreasing_by exact Nat.mod_lt _ (Nat.succ_pos _)
theorem cf_zero (n : Nat) : cf 0 n = [] := by rw [cf]
theorem cf_succ (m n : Nat) : cf (m + 1) n = ((n : Int) / ((m + 1 : Nat) : Int)) :: cf (n % (m + 1)) (m + 1) := by rw [cf]
theorem cf_len : ∀ (p n : Nat), (cf p n).length ≤ p := by
  intro p
  induction p using Nat.strongRecOn with
  | ind p ih =>
    intro n
    cases p with
    | zero => rw [cf_zero]; exact Nat.le_refl _
    | succ m =>
      rw [cf_succ, List.length_cons]
      have h1 : n % (m + 1) < m + 1 := Nat.mod_lt n (Nat.succ_pos m)
      have h2 := ih (n % (m + 1)) h1 (m + 1)
      omega
def stg (ps : List (D × Int)) : List D := ps.map fun x => PyData.tuple [x.1, .int x.2]
theorem stg_app (ps : List (D × Int)) (a : D) (b : Int) : stg (ps ++ [(a, b)]) = stg ps ++ [.tuple [a, .int b]] := by unfold stg; rw [List.map_append]; rfl
theorem stg_len (ps : List (D × Int)) : (stg ps).length = ps.length := by unfold stg; rw [List.length_map]
theorem s_ladder_of {p n : Nat} {k : Int} (hp : p ≤ n) (n1 : 1 ≤ n) (n5 : n ≤ 500) (k0 : 0 ≤ k) (kq : k < n) :
    ∃ (ps : List (D × Int)) (w : D), ps.map (·.2) = cf p n ∧ m_ladder_of [.str (rw_ (rowF (N.St p n k) n))] = some (.tuple [.str "even", .tuple (stg ps ++ [.tuple [w, .none]])]) := by
  generalize hR : rw_ (rowF (N.St p n k) n) = row0
  obtain ⟨e', h1, ps, w, s3, rfl, hps⟩ := while_indM (t := tst (eBin dIn (eC (.str "1")) (eNm 2))) (b := b_ladder_of_1) (e := [.val (.str row0), .own [], .val (.str row0), .un, .un])
    (fun P e => ∃ (ps : List (D × Int)) (n' : Nat) (k' : Int) (s3 : Sl), e = [.val (.str row0), .own (stg ps), .val (.str (rw_ (rowF (N.St P n' k') n'))), s3, .un] ∧ (s3 = .un ∨ ∃ d, s3 = .val d) ∧ P ≤ n' ∧ 1 ≤ n' ∧ n' ≤ 500 ∧ 0 ≤ k' ∧ k' < n' ∧ ps.map (·.2) ++ cf P n' = cf p n)
    (fun e => ∃ (ps : List (D × Int)) (w : D) (s3 : Sl), e = [.val (.str row0), .own (stg ps), .val w, s3, .un] ∧ ps.map (·.2) = cf p n)
    (fun P e ⟨ps, n', k', s3, he, h3, hP, hn1, hn5, hk0, hkq, hps⟩ => by
      subst he
      cases P with
      | zero =>
        refine .inl ⟨[.val (.str row0), .own (stg ps), .val (.str (rw_ (rowF (N.St ((0 : Nat) : Int) n' k') n'))), s3, .un], ?_, ps, .str (rw_ (rowF (N.St ((0 : Nat) : Int) n' k') n')), s3, rfl, by rw [cf_zero, List.append_nil] at hps; exact hps⟩
        have h4 := dIn_one (rowF (N.St ((0 : Nat) : Int) n' k') n')
        rw [show (((0 : Nat) : Int)) = 0 from rfl, any_zero] at h4
        rw [show (((0 : Nat) : Int)) = 0 from rfl]
        clear hps hR
        walk_at "ev"
        try rfl
      | succ m =>
        have h4 := dIn_one (rowF (N.St ((m + 1 : Nat) : Int) n' k') n')
        rw [any_rowF hP hk0 hkq] at h4
        have h5 := s_der hP hn5 hk0 hkq
        have hlen : (stg ps).length < sizeLine := szl (by
          have := congrArg List.length hps
          have h6 := cf_len p n
          simp only [List.length_append, List.length_map] at this
          rw [stg_len]; omega)
        generalize hrow : rw_ (rowF (N.St ((m + 1 : Nat) : Int) n' k') n') = row at h4 h5 ⊢
        generalize hnew : rw_ (rowF (N.St ((n' : Int) % ((m + 1 : Nat) : Int)) ((m + 1 : Nat) : Int) (((n' : Int) - k' - 1) % ((m + 1 : Nat) : Int))) (m + 1)) = new at h5
        generalize hd : (n' : Int) / ((m + 1 : Nat) : Int) = d at h5
        have hi : isN (.tuple [.str new, .int d]) = false := rfl
        refine .inr ⟨[.val (.str row0), .own (stg ps), .val (.str row), s3, .un], [.val (.str row0), .own (stg (ps ++ [(PyData.str row, d)])), .val (.str new), .val (.tuple [.str new, .int d]), .un],
          n' % (m + 1), Nat.mod_lt _ (Nat.succ_pos _), ?_, ?_, ps ++ [(PyData.str row, d)], m + 1, ((n' : Int) - k' - 1) % ((m + 1 : Nat) : Int), .val (.tuple [.str new, .int d]), ?_, .inr ⟨_, rfl⟩, Nat.le_of_lt (Nat.mod_lt _ (Nat.succ_pos _)), by omega, by omega, Int.emod_nonneg _ (by omega), Int.emod_lt_of_pos _ (by omega), ?_⟩
        · clear hps hR h5 hlen hi hrow hnew hd
          walk_at "ev"
          try rfl
        · rw [stg_app]
          unfold b_ladder_of_1
          clear hps hR h4 hrow hnew hd
          rcases h3 with rfl | ⟨d, rfl⟩
          · skip
            walk_at "ev"; try rfl
          · skip
            walk_at "ev"; try rfl
        · rw [Int.natCast_emod, hnew]
        · rw [← hps, cf_succ, List.map_append, List.append_assoc, hd]
          rfl) p ⟨[], n, k, .un, by rw [hR]; rfl, .inl rfl, hp, n1, n5, k0, kq, rfl⟩ (Nat.lt_of_le_of_lt (show p ≤ 500 by omega) (by unfold fuel; decide))
  refine ⟨ps, w, hps, ?_⟩
  replace h1 : w_ladder_of_1 [.val (.str row0), .own [], .val (.str row0), .un, .un] = _ := h1
  have hlen : (stg ps).length + (0 + 1) ≤ sizeLine := sz (by
    have h6 := cf_len p n
    rw [← hps, List.length_map] at h6
    rw [stg_len]; omega)
  clear hR hps
  refine mD_ev rfl ?_
  show retO (t_ladder_of [.val (.str row0), .un, .un, .un, .un]) = _
  unfold t_ladder_of
  rcases s3 with _ | _ | _ | _
  all_goals walk_at "ev"
end W.S

set_option maxHeartbeats 4000000
namespace W.S
open PySem PySem.Spec PyProof.Rows L2 PL
local macro_rules | `(tactic| walk_at "ev") => `(tactic| simp only [nm0, no0, svu0, svv0, svo0, sou0, sov0, soo0, st0, gt0, mo0, po0, la0, lv0, me0, pe0, le0, nm1, no1, svu1, svv1, svo1, sou1, sov1, soo1, st1, gt1, mo1, po1, la1, lv1, me1, pe1, le1, nm2, no2, svu2, svv2, svo2, sou2, sov2, soo2, st2, gt2, mo2, po2, la2, lv2, me2, pe2, le2, nm3, no3, svu3, svv3, svo3, sou3, sov3, soo3, st3, gt3, mo3, po3, la3, lv3, nm4, no4, svu4, svv4, svo4, sou4, sov4, soo4, st4, gt4, mo4, po4, la4, lv4, nm5, no5, svu5, svv5, svo5, sou5, sov5, soo5, st5, gt5, mo5, po5, la5, lv5, nm6, no6, svu6, svv6, svo6, sou6, sov6, soo6, st6, gt6, mo6, po6, la6, lv6, nm7, no7, svu7, svv7, svo7, sou7, sov7, soo7, st7, gt7, mo7, po7, la7, lv7, nm8, no8, svu8, svv8, svo8, sou8, sov8, soo8, st8, gt8, mo8, po8, la8, lv8, nm9, no9, svu9, svv9, svo9, sou9, sov9, soo9, st9, gt9, mo9, po9, la9, lv9, nm10, no10, svu10, svv10, svo10, sou10, sov10, soo10, st10, gt10, mo10, po10, la10, lv10, nm11, no11, svu11, svv11, svo11, sou11, sov11, soo11, st11, gt11, mo11, po11, la11, lv11, nm12, no12, svu12, svv12, svo12, sou12, sov12, soo12, st12, gt12, mo12, po12, la12, lv12, nm13, no13, svu13, svv13, svo13, sou13, sov13, soo13, st13, gt13, mo13, po13, la13, lv13, nm14, no14, svu14, svv14, svo14, sou14, sov14, soo14, st14, gt14, mo14, po14, la14, lv14, nm15, no15, svu15, svv15, svo15, sou15, sov15, soo15, st15, gt15, mo15, po15, la15, lv15, nm16, no16, svu16, svv16, svo16, sou16, sov16, soo16, st16, gt16, mo16, po16, la16, lv16, nm17, no17, svu17, svv17, svo17, sou17, sov17, soo17, st17, gt17, mo17, po17, la17, lv17, nm18, no18, svu18, svv18, svo18, sou18, sov18, soo18, st18, gt18, mo18, po18, la18, lv18, nm19, no19, svu19, svv19, svo19, sou19, sov19, soo19, st19, gt19, mo19, po19, la19, lv19, nm20, no20, svu20, svv20, svo20, sou20, sov20, soo20, st20, gt20, mo20, po20, la20, lv20, nm21, no21, svu21, svv21, svo21, sou21, sov21, soo21, st21, gt21, mo21, po21, la21, lv21, nm22, no22, svu22, svv22, svo22, sou22, sov22, soo22, st22, gt22, mo22, po22, la22, lv22, nm23, no23, svu23, svv23, svo23, sou23, sov23, soo23, st23, gt23, mo23, po23, la23, lv23, nm24, no24, svu24, svv24, svo24, sou24, sov24, soo24, st24, gt24, mo24, po24, la24, lv24, nm25, no25, svu25, svv25, svo25, sou25, sov25, soo25, st25, gt25, mo25, po25, la25, lv25, e_C, e_Seq, q_nx, q_rt, q_bk, q_ct, e_If, i_t, i_f, e_Next, e_RetN, e_Break, e_Cont, e_Ret, r_s, e_Expr, x_s, nx_s, e_Set, set_s, e_Own, own_s, e_Asg, asg_s, g_nm, g_tup, gs_nil, gs_cons, gsb_s, e_Par, par_s, par2_s, e_Par3, par3_s, e_Bin, bin_s, binC_s, binD_s, e_Un, un_s, e_Chain, ch_s, chC_s, chD_t, chD_f, e_And, and_t, and_f, e_Or, or_t, or_f, e_Not, not_s, e_IfE, ife_t, ife_f, e_Tst, tst_s, e_CAnd, e_COr, cand_t, cand_f, cor_t, cor_f, e_CNot, cnot_s, e_aN, e_aC, con_s, conC_s, e_Tup, tup_s, e_Lst, lst_s, e_Of, of_s, e_Call, call_s, callC_s, e_FCall, fcal_s, fcalC_s, e_Meth, mth_s, mthC_s, e_Sl, sl_s, slC_s, slD_s, e_oN, e_oS, o_s, e_Ixo, ixo_s, ixoA_s, ixoC_s, e_Leno, len_s, e_CallH, hcA_s, hcB_s, hcC_s, hcD_s, e_Isi, isi_int_int, isi_int_bool, isi_int_str, isi_int_list, isi_int_tuple, isi_bool_int, isi_bool_bool, isi_bool_str, isi_bool_list, isi_bool_tuple, isi_str_int, isi_str_bool, isi_str_str, isi_str_list, isi_str_tuple, isi_list_int, isi_list_bool, isi_list_str, isi_list_list, isi_list_tuple, isi_tuple_int, isi_tuple_bool, isi_tuple_str, isi_tuple_list, isi_tuple_tuple, isi_none_int, isi_none_bool, isi_none_str, isi_none_list, isi_none_tuple, e_Comp, cmp_s, cmpE_s, wp_n, wp_c, bk_n, bk_c, bks_v, bks_u, bks_o, nx_n, nx_c, nx1_v, nx1_u, nx1_o, e_For, for_s, e_iAny, any_l, any_t, any_s, e_iR1, e_iR2, e_iZp, e_iEn, rg1_s, rg2_s, zp_s, en_l, en_s, e_App, apA_s, apB_s, e_Put, ptA_s, ptB_s, ptC_s, ptD_s, d_add, d_adds, d_addl, d_muls, d_sub, d_mul, d_div, d_mod, d_neg, d_lt, d_lts, d_le, d_gt, d_ge, d_eqi, d_eqs, d_eqb, d_nei, d_nes, d_neb, d_isn, d_isnn, isN_n, isN_i, isN_b, isN_s, isN_l, isN_t, ix_t0, at_0, ix_t1, at_1, ix_t2, at_2, ix_t3, at_3, ix_t4, at_4, ix_l, c_lenl, c_lent, c_lens, c_abs, c_int, c_tupl, c_tupt, c_lst, c_lstt, c_max2, c_min2, s_list, s_tup, s_str, e_ParM, pm_s, e_mN, e_mD, md_s, mdC_s, e_mL, ml_s, mlC_s, sms_n, sms_d, sms_l, sm_s, e_Rev, rv_s, retO_rt, retO_nx, szA0, szA1, szA2, szA3, szA4, szA5, szA6, szB0, szB1, e_fSeq, fsq_s, e_fRet, fret_s, mk1, mk2, mk3, mk4, mk5, mk6, dk1, dk2, dk3, zk1, zk2, zk3, pk18, pk6, pk4, ix5_0, ix5_1, ix5_2, ix5_3, ix5_4, List.set_cons_zero, List.set_cons_succ, rtHO_rt, rtHO_nx, List.length_cons, List.length_nil, if_true, if_false, Bool.not_true, Bool.not_false, decide_true, decide_false, true_and, and_true, Bool.and_true, Bool.true_and, *])

theorem s_form_of {p q a b k : Int} (h : Ru p q a b) (hk : q * a / b = k) : m_form_of [ru p q a b] = some (.tuple [.int p, .int q, .int k]) := by
  have hb0 : 0 < b := by have := h.a0; have := h.ab; omega
  have hb2 := h.b2
  have hq1 := h.q1
  have hq2 := h.q2
  have g1 : PL.MulOk q a := PL.MulOk.l (by omega) (by omega)
  have g2 : DivOk b := DivOk.s hb0 (by omega)
  clear h hb0 hb2 hq1 hq2
  unfold ru fr
  refine mD_ev rfl ?_
  show retO (t_form_of [.val (.tuple [.tuple [.int p, .int q], .tuple [.int a, .int b]]), .un, .un]) = _
  unfold t_form_of
  walk_at "ev"
theorem s_normal {p q a b k : Int} (h : Ru p q a b) (hk : q * a / b = k) : m_normal [ru p q a b] = some (.tuple [.int p, .int q, .int k]) := by
  have h1 := s_check_rule h
  have h2 := s_form_of h hk
  clear hk
  refine mD_ev rfl ?_
  show retO (t_normal [.val (ru p q a b)]) = _
  unfold t_normal
  walk_at "ev"
theorem s_parts_same {p q a b a2 b2 k : Int} (h : Ru p q a b) (h2 : Ru p q a2 b2) (hk : q * a / b = k) (hk2 : q * a2 / b2 = k) : m_parts_at [ru p q a b, ru p q a2 b2] = some .none := by
  have c1 := s_check_rule h
  have c2 := s_check_rule h2
  have f1 := s_form_of h hk
  have f2 := s_form_of h2 hk2
  have e1 : dEq (.tuple [.int p, .int q, .int k]) (.tuple [.int p, .int q, .int k]) = some (.bool true) := dEq_same (by
    unfold SeqAt.shaped
    simp [PyData.canLay0, PyData.canLayAll0, PyData.depth, PyData.depthAll]) trivial
  clear hk hk2 h h2
  have hf : m_first_parting [ru p q a b, ru p q a2 b2] = some .none := by
    refine mD_ev rfl ?_
    show retO (t_first_parting [.val (ru p q a b), .val (ru p q a2 b2), .un]) = _
    unfold t_first_parting
    walk_at "ev"
  refine mD_ev rfl ?_
  show retO (t_parts_at [.val (ru p q a b), .val (ru p q a2 b2)]) = _
  unfold t_parts_at
  walk_at "ev"
/-- the law's own rows -/
theorem s_law_made {p q k : Int} (hq : 0 < q) (hq2 : q ≤ 10000) (p0 : 0 ≤ p) (pq : p ≤ q) (k0 : 0 ≤ k) (kq : k < q) (f : Int) (n : Nat) (f0 : 0 ≤ f) (f1 : f ≤ 1000000000000) (hn : n ≤ 500) :
    m_law_made [.int p, .int q, .int k, .int f, .int n] = some (.str (rw_ (rowF (N.St p q ((f * p + k) % q)) n))) := by
  have gd : DivOk q := DivOk.s hq (by omega)
  have hrow : ∀ i : Nat, (p * (f + i + 1) + k) / q - (p * (f + i) + k) / q = if decide (N.St p q ((f * p + k) % q) i < N.St p q ((f * p + k) % q) (i + 1)) = true then 1 else 0 := by
    intro i
    have e1 : ∀ j : Int, (p * (f + j) + k) / q = (j * p + (f * p + k) % q) / q + (f * p + k) / q := fun j => by
      rw [show p * (f + j) + k = j * p + (f * p + k) by rw [Int.mul_add, Int.mul_comm p, Int.mul_comm p]; omega, shift_c hq]
    have e2 := e1 i
    have e3 := e1 (i + 1)
    have e4 := N.St_step (p := p) (q := q) (k := (f * p + k) % q) hq p0 pq i
    have e5 : N.St p q ((f * p + k) % q) i = (i * p + (f * p + k) % q) / q := rfl
    have e6 : N.St p q ((f * p + k) % q) (i + 1) = (((i : Int) + 1) * p + (f * p + k) % q) / q := rfl
    rw [← Int.add_assoc] at e3
    rw [e2, e3, ← e5, ← e6]
    rcases e4 with h | h
    · rw [decide_eq_false (by omega)]; simp; omega
    · rw [decide_eq_true (by omega)]; simp; omega
  obtain ⟨e', h1, s6, rfl, _⟩ := for_of (g := gNm 6) (b := b_law_made_1) (fun i : Nat => PyData.int (f + i)) (fun pre e => ∃ s6, e = [.val (.int p), .val (.int q), .val (.int k), .val (.int f), .val (.int n), .val (.str (rw_ (rowF (N.St p q ((f * p + k) % q)) pre.length))), s6] ∧ (s6 = .un ∨ ∃ d, s6 = .val d))
    (List.range n) [] [.val (.int p), .val (.int q), .val (.int k), .val (.int f), .val (.int n), .val (.str (rw_ [])), .un] (fun pre i post e he => fun ⟨s6, h1, h2⟩ => by
      have hi : i = pre.length := by
        have := congrArg (fun l => l[pre.length]?) he
        simp at this
        have h3 : pre.length < n := by
          have := congrArg List.length he
          simp at this; omega
        rw [List.getElem?_range h3] at this
        simpa using this
      have hlt : pre.length < n := by
        have := congrArg List.length he
        simp at this; omega
      clear he
      subst h1 hi
      refine ⟨[.val (.int p), .val (.int q), .val (.int k), .val (.int f), .val (.int n), .val (.str (rw_ (rowF (N.St p q ((f * p + k) % q)) pre.length))), .val (.int (f + pre.length))], [.val (.int p), .val (.int q), .val (.int k), .val (.int f), .val (.int n), .val (.str (rw_ (rowF (N.St p q ((f * p + k) % q)) (pre ++ [pre.length]).length))), .val (.int (f + pre.length))], by rcases h2 with rfl | ⟨d, rfl⟩ <;> rfl, .inl ?_, _, rfl, .inr ⟨_, rfl⟩⟩
      have hr := hrow pre.length
      have g1 : PL.MulOk p (f + pre.length + 1) := PL.MulOk.l (by omega) (by omega)
      have g2 : PL.MulOk p (f + pre.length) := PL.MulOk.l (by omega) (by omega)
      have hs := dStr_sgn (decide (N.St p q ((f * p + k) % q) pre.length < N.St p q ((f * p + k) % q) (pre.length + 1)))
      have ha := add_sgn (rowF (N.St p q ((f * p + k) % q)) pre.length) (decide (N.St p q ((f * p + k) % q) pre.length < N.St p q ((f * p + k) % q) (pre.length + 1)))
      rw [← rowF_succ] at ha
      rw [← hr] at hs
      have hz : (rw_ (rowF (N.St p q ((f * p + k) % q)) pre.length)).length + (sgn (decide (N.St p q ((f * p + k) % q) pre.length < N.St p q ((f * p + k) % q) (pre.length + 1)))).length ≤ sizeLine := by
        rw [rw_len, rowF_len, sgn_rw, rw_len]
        exact sz (by simp; omega)
      rw [List.length_append, List.length_singleton]
      clear hr hrow
      generalize sgn (decide (N.St p q ((f * p + k) % q) pre.length < N.St p q ((f * p + k) % q) (pre.length + 1))) = sg at *
      generalize rw_ (rowF (N.St p q ((f * p + k) % q)) pre.length) = r0 at *
      generalize rw_ (rowF (N.St p q ((f * p + k) % q)) (pre.length + 1)) = r1 at *
      unfold b_law_made_1
      walk_at "ev") ⟨.un, rfl, .inl rfl⟩
  have hw : w_law_made_1 [.val (.int p), .val (.int q), .val (.int k), .val (.int f), .val (.int n), .val (.str (rw_ [])), .un] = some (.nx [.val (.int p), .val (.int q), .val (.int k), .val (.int f), .val (.int n), .val (.str (rw_ (rowF (N.St p q ((f * p + k) % q)) n))), s6]) := by
    have g1 : (small62 f && small62 (f + n)) = true := by
      unfold small62
      simp
      omega
    have g2 : (f + n - f).toNat = n := by omega
    have g3 : rgD f n = (List.range n).map fun i : Nat => PyData.int (f + i) := rfl
    rw [← g3, List.nil_append, List.length_range] at h1
    clear hrow g3
    unfold w_law_made_1
    walk_at "ev"
  have h0 := rw_nil
  clear hrow h1
  rw [show (Str.ofString "") = rw_ [] from h0] at *
  refine mD_ev rfl ?_
  show retO (t_law_made [.val (.int p), .val (.int q), .val (.int k), .val (.int f), .val (.int n), .un, .un]) = _
  unfold t_law_made
  rw [show PyData.str "" = PyData.str (rw_ []) from congrArg _ h0]
  clear h0
  walk_at "ev"
theorem N_gcd (p q : Int) (p1 : 1 ≤ p) (pq : p ≤ q) : Int.gcd (q % p) p = Int.gcd p q := by
  have := gcd_step q p (by omega) (by omega)
  rw [Int.gcd_comm] at this
  rw [this, Int.gcd_comm]
theorem s_law_derived {p q k : Int} (p1 : 1 ≤ p) (q2 : q ≤ 10000) (pq : p ≤ q) (pg : Int.gcd p q = 1) (k0 : 0 ≤ k) (kq : k < q) :
    m_law_derived [.tuple [.int p, .int q, .int k]] = some (.tuple [.tuple [.int (q % p), .int p, .int ((q - k - 1) % p)], .int (q / p)]) := by
  have h1 := Int.mul_ediv_add_emod q p
  have h2 := Int.mul_ediv_add_emod (q - k - 1) p
  have hr0 := Int.emod_nonneg q (show p ≠ 0 by omega)
  have hr1 := Int.emod_lt_of_pos q (show 0 < p by omega)
  have e1 : q - q / p * p = q % p := by rw [Int.mul_comm]; omega
  have e2 : (q - k - 1 - p * ((q - k - 1) / p)) * p / p = (q - k - 1) % p := by rw [Int.mul_ediv_cancel _ (by omega)]; omega
  have hc1 := Int.emod_lt_of_pos (q - k - 1) (show 0 < p by omega)
  have hc0 := Int.emod_nonneg (q - k - 1) (show p ≠ 0 by omega)
  have hg : Int.gcd (q % p) p = 1 := by
    rw [← pg]
    exact N_gcd p q p1 pq
  have h3 := s_divisor (q % p) p hr0 (by omega) (by omega)
  rw [hg] at h3
  replace h3 : m_law_divisor [.int (q % p), .int p] = some (.int 1) := h3
  have g1 : DivOk p := DivOk.s (by omega) (by omega)
  have g2 : DivOk 1 := DivOk.s (by omega) (by omega)
  have g3 : PL.MulOk (q / p) p := PL.MulOk.r (by omega) (by omega)
  have g4 : PL.MulOk p ((q - k - 1) / p) := PL.MulOk.l (by omega) (by omega)
  have g5 : PL.MulOk (q - k - 1 - p * ((q - k - 1) / p)) p := PL.MulOk.r (by omega) (by omega)
  have e3 : p / 1 = p := Int.ediv_one _
  have e4 : q % p / 1 = q % p := Int.ediv_one _
  clear h1 h2 hr0 hr1 hc0 hc1 hg pg p1 q2 pq k0 kq
  refine mD_ev rfl ?_
  show retO (t_law_derived [.val (.tuple [.int p, .int q, .int k]), .un, .un, .un, .un, .un, .un, .un, .un]) = _
  unfold t_law_derived
  walk_at "ev"
end W.S

set_option maxHeartbeats 4000000
namespace W.S
open PySem PySem.Spec PyProof.Rows L2 PL
local macro_rules | `(tactic| walk_at "ev") => `(tactic| simp only [nm0, no0, svu0, svv0, svo0, sou0, sov0, soo0, st0, gt0, mo0, po0, la0, lv0, me0, pe0, le0, nm1, no1, svu1, svv1, svo1, sou1, sov1, soo1, st1, gt1, mo1, po1, la1, lv1, me1, pe1, le1, nm2, no2, svu2, svv2, svo2, sou2, sov2, soo2, st2, gt2, mo2, po2, la2, lv2, me2, pe2, le2, nm3, no3, svu3, svv3, svo3, sou3, sov3, soo3, st3, gt3, mo3, po3, la3, lv3, nm4, no4, svu4, svv4, svo4, sou4, sov4, soo4, st4, gt4, mo4, po4, la4, lv4, nm5, no5, svu5, svv5, svo5, sou5, sov5, soo5, st5, gt5, mo5, po5, la5, lv5, nm6, no6, svu6, svv6, svo6, sou6, sov6, soo6, st6, gt6, mo6, po6, la6, lv6, nm7, no7, svu7, svv7, svo7, sou7, sov7, soo7, st7, gt7, mo7, po7, la7, lv7, nm8, no8, svu8, svv8, svo8, sou8, sov8, soo8, st8, gt8, mo8, po8, la8, lv8, nm9, no9, svu9, svv9, svo9, sou9, sov9, soo9, st9, gt9, mo9, po9, la9, lv9, nm10, no10, svu10, svv10, svo10, sou10, sov10, soo10, st10, gt10, mo10, po10, la10, lv10, nm11, no11, svu11, svv11, svo11, sou11, sov11, soo11, st11, gt11, mo11, po11, la11, lv11, nm12, no12, svu12, svv12, svo12, sou12, sov12, soo12, st12, gt12, mo12, po12, la12, lv12, nm13, no13, svu13, svv13, svo13, sou13, sov13, soo13, st13, gt13, mo13, po13, la13, lv13, nm14, no14, svu14, svv14, svo14, sou14, sov14, soo14, st14, gt14, mo14, po14, la14, lv14, nm15, no15, svu15, svv15, svo15, sou15, sov15, soo15, st15, gt15, mo15, po15, la15, lv15, nm16, no16, svu16, svv16, svo16, sou16, sov16, soo16, st16, gt16, mo16, po16, la16, lv16, nm17, no17, svu17, svv17, svo17, sou17, sov17, soo17, st17, gt17, mo17, po17, la17, lv17, nm18, no18, svu18, svv18, svo18, sou18, sov18, soo18, st18, gt18, mo18, po18, la18, lv18, nm19, no19, svu19, svv19, svo19, sou19, sov19, soo19, st19, gt19, mo19, po19, la19, lv19, nm20, no20, svu20, svv20, svo20, sou20, sov20, soo20, st20, gt20, mo20, po20, la20, lv20, nm21, no21, svu21, svv21, svo21, sou21, sov21, soo21, st21, gt21, mo21, po21, la21, lv21, nm22, no22, svu22, svv22, svo22, sou22, sov22, soo22, st22, gt22, mo22, po22, la22, lv22, nm23, no23, svu23, svv23, svo23, sou23, sov23, soo23, st23, gt23, mo23, po23, la23, lv23, nm24, no24, svu24, svv24, svo24, sou24, sov24, soo24, st24, gt24, mo24, po24, la24, lv24, nm25, no25, svu25, svv25, svo25, sou25, sov25, soo25, st25, gt25, mo25, po25, la25, lv25, e_C, e_Seq, q_nx, q_rt, q_bk, q_ct, e_If, i_t, i_f, e_Next, e_RetN, e_Break, e_Cont, e_Ret, r_s, e_Expr, x_s, nx_s, e_Set, set_s, e_Own, own_s, e_Asg, asg_s, g_nm, g_tup, gs_nil, gs_cons, gsb_s, e_Par, par_s, par2_s, e_Par3, par3_s, e_Bin, bin_s, binC_s, binD_s, e_Un, un_s, e_Chain, ch_s, chC_s, chD_t, chD_f, e_And, and_t, and_f, e_Or, or_t, or_f, e_Not, not_s, e_IfE, ife_t, ife_f, e_Tst, tst_s, e_CAnd, e_COr, cand_t, cand_f, cor_t, cor_f, e_CNot, cnot_s, e_aN, e_aC, con_s, conC_s, e_Tup, tup_s, e_Lst, lst_s, e_Of, of_s, e_Call, call_s, callC_s, e_FCall, fcal_s, fcalC_s, e_Meth, mth_s, mthC_s, e_Sl, sl_s, slC_s, slD_s, e_oN, e_oS, o_s, e_Ixo, ixo_s, ixoA_s, ixoC_s, e_Leno, len_s, e_CallH, hcA_s, hcB_s, hcC_s, hcD_s, e_Isi, isi_int_int, isi_int_bool, isi_int_str, isi_int_list, isi_int_tuple, isi_bool_int, isi_bool_bool, isi_bool_str, isi_bool_list, isi_bool_tuple, isi_str_int, isi_str_bool, isi_str_str, isi_str_list, isi_str_tuple, isi_list_int, isi_list_bool, isi_list_str, isi_list_list, isi_list_tuple, isi_tuple_int, isi_tuple_bool, isi_tuple_str, isi_tuple_list, isi_tuple_tuple, isi_none_int, isi_none_bool, isi_none_str, isi_none_list, isi_none_tuple, e_Comp, cmp_s, cmpE_s, wp_n, wp_c, bk_n, bk_c, bks_v, bks_u, bks_o, nx_n, nx_c, nx1_v, nx1_u, nx1_o, e_For, for_s, e_iAny, any_l, any_t, any_s, e_iR1, e_iR2, e_iZp, e_iEn, rg1_s, rg2_s, zp_s, en_l, en_s, e_App, apA_s, apB_s, e_Put, ptA_s, ptB_s, ptC_s, ptD_s, d_add, d_adds, d_addl, d_muls, d_sub, d_mul, d_div, d_mod, d_neg, d_lt, d_lts, d_le, d_gt, d_ge, d_eqi, d_eqs, d_eqb, d_nei, d_nes, d_neb, d_isn, d_isnn, isN_n, isN_i, isN_b, isN_s, isN_l, isN_t, ix_t0, at_0, ix_t1, at_1, ix_t2, at_2, ix_t3, at_3, ix_t4, at_4, ix_l, c_lenl, c_lent, c_lens, c_abs, c_int, c_tupl, c_tupt, c_lst, c_lstt, c_max2, c_min2, s_list, s_tup, s_str, e_ParM, pm_s, e_mN, e_mD, md_s, mdC_s, e_mL, ml_s, mlC_s, sms_n, sms_d, sms_l, sm_s, e_Rev, rv_s, retO_rt, retO_nx, szA0, szA1, szA2, szA3, szA4, szA5, szA6, szB0, szB1, e_fSeq, fsq_s, e_fRet, fret_s, mk1, mk2, mk3, mk4, mk5, mk6, dk1, dk2, dk3, zk1, zk2, zk3, pk18, pk6, pk4, ix5_0, ix5_1, ix5_2, ix5_3, ix5_4, List.set_cons_zero, List.set_cons_succ, rtHO_rt, rtHO_nx, List.length_cons, List.length_nil, if_true, if_false, Bool.not_true, Bool.not_false, decide_true, decide_false, true_and, and_true, Bool.and_true, Bool.true_and, *])

theorem div_add {A B p : Int} (hp : 0 < p) : (A + B) / p = A / p + B / p ∨ (A + B) / p = A / p + B / p + 1 := by
  have h1 := Int.mul_ediv_add_emod A p
  have h2 := Int.mul_ediv_add_emod B p
  have h3 := Int.emod_nonneg A (show p ≠ 0 by omega)
  have h4 := Int.emod_lt_of_pos A hp
  have h5 := Int.emod_nonneg B (show p ≠ 0 by omega)
  have h6 := Int.emod_lt_of_pos B hp
  by_cases h : A % p + B % p < p
  · left
    have e : A + B = (A % p + B % p) + p * (A / p + B / p) := by rw [Int.mul_add]; omega
    have z : (A % p + B % p) / p = 0 := Int.ediv_eq_zero_of_lt (by omega) h
    rw [e, Int.add_mul_ediv_left _ _ (by omega), z]; omega
  · right
    have e : A + B = (A % p + B % p - p) + p * (A / p + B / p + 1) := by rw [Int.mul_add, Int.mul_add, Int.mul_one]; omega
    have z : (A % p + B % p - p) / p = 0 := Int.ediv_eq_zero_of_lt (by omega) (by omega)
    rw [e, Int.add_mul_ediv_left _ _ (by omega), z]; omega
theorem day_nth {p q k : Int} (hp : 0 < p) (pq : p ≤ q) (k0 : 0 ≤ k) (kq : k < q) (j : Int) (j0 : 0 ≤ j) : ∃ i : Nat, (i : Int) = (j * q + (q - k - 1)) / p ∧ N.St p q k i = j ∧ N.St p q k (i + 1) = j + 1 := by
  have hj : 0 ≤ j * q := Int.mul_nonneg j0 (by omega)
  have hi : 0 ≤ (j * q + (q - k - 1)) / p := Int.ediv_nonneg (by omega) (by omega)
  obtain ⟨i, hi2⟩ := Int.eq_ofNat_of_zero_le hi
  refine ⟨i, hi2.symm, ?_⟩
  have h1 := Int.mul_ediv_add_emod (j * q + (q - k - 1)) p
  have h2 := Int.emod_nonneg (j * q + (q - k - 1)) (show p ≠ 0 by omega)
  have h3 := Int.emod_lt_of_pos (j * q + (q - k - 1)) hp
  rw [hi2, Int.mul_comm p] at h1
  have e1 : N.St p q k i < j + 1 := by
    unfold N.St
    refine Int.ediv_lt_of_lt_mul (by omega) ?_
    rw [Int.add_mul, Int.one_mul]; omega
  have e2 : j + 1 ≤ N.St p q k (i + 1) := by
    unfold N.St
    rw [Int.le_ediv_iff_mul_le (by omega), st_succ, Int.add_mul, Int.one_mul]; omega
  rcases N.St_step (p := p) (q := q) (k := k) (by omega) (by omega) pq i with h | h <;> omega
theorem s_dist {hs : List D} (h : HandOk hs) {p q k : Int} (hf : Nf p q k) (p1 : 1 ≤ p) (q3 : 3 * q ≤ 10000) : ∃ hs', m_law_are_distances_right hs [.tuple [.int p, .int q, .int k]] = some (.bool true, hs') ∧ HandOk hs' := by
  obtain ⟨a, b, h1, e1, hR, hT, o1⟩ := s_law_rule h hf q3
  obtain ⟨x, h2, e2, x0, x1, o2⟩ := s_draw o1 1000 (by omega) (by omega)
  obtain ⟨y, h3, e3, y0, y1, o3⟩ := s_draw o2 100000000000 (by omega) (by omega)
  obtain ⟨p0, pq, q1, q2, pg, k0, kq⟩ := hf
  have hq0 : 0 < q := by omega
  have hb0 : 0 < b := by have := hR.a0; have := hR.ab; omega
  have hr0 := Int.emod_nonneg q (show p ≠ 0 by omega)
  have hr1 := Int.emod_lt_of_pos q (show 0 < p by omega)
  have hc1 := Int.emod_lt_of_pos (q - k - 1) (show 0 < p by omega)
  have hc0 := Int.emod_nonneg (q - k - 1) (show p ≠ 0 by omega)
  have ed := s_law_derived p1 (by omega) pq pg k0 kq
  obtain ⟨a2, b2, u2, R2, _, T2⟩ := s_rule_of (p := q % p) (q := p) (k := (q - k - 1) % p) ⟨hr0, by omega, p1, by omega, by rw [N_gcd p q p1 pq]; exact pg, hc0, hc1⟩ (by omega)
  generalize hd : q / p = d at ed
  have hnth : ∀ j : Int, 0 ≤ j → j ≤ 1000000000000 → m_nth_duty [ru p q a b, .int j] = some (.int ((j * q + (q - k - 1)) / p)) := fun j j0 j1 => by
    obtain ⟨i, hi, f1, f2⟩ := day_nth (p := p) (q := q) (k := k) (by omega) pq k0 kq j j0
    have := nth_val hT (by omega) hq0 hb0 i (by omega)
    rw [f1] at this
    rw [s_nth_duty j hR (by omega) j0 j1, this, hi]
  have body : ∀ (hs : List D) (f : Nat) (s6 s7 s8 s9 : Sl), HandOk hs → (f : Int) ≤ 100000000000 → ((s6 = .un ∧ s7 = .un ∧ s8 = .un ∧ s9 = .un) ∨ ∃ v6 v7 v8 v9, s6 = .val v6 ∧ s7 = .val v7 ∧ s8 = .val v8 ∧ s9 = .val v9) → ∃ hs' v6 v7 v8 v9, HandOk hs' ∧
      b_law_are_distances_right_1 [.ext hs, .val (.tuple [.int p, .int q, .int k]), .val (ru p q a b), .val (.tuple [.int (q % p), .int p, .int ((q - k - 1) % p)]), .val (.int d), .val (.int f), s6, s7, s8, s9, .un, .un, .un] =
        some (.nx [.ext hs', .val (.tuple [.int p, .int q, .int k]), .val (ru p q a b), .val (.tuple [.int (q % p), .int p, .int ((q - k - 1) % p)]), .val (.int d), .val (.int f), .val v6, .val v7, .val v8, .val v9, .un, .un, .un]) := by
    intro hs f s6 s7 s8 s9 oh hf1 hsl
    obtain ⟨s0, hs', es, sl0, sl1, oh'⟩ := s_draw oh 20 (by omega) (by omega)
    obtain ⟨sn, hsn⟩ : ∃ sn : Nat, (sn : Int) = 1 + s0 := ⟨(1 + s0).toNat, by omega⟩
    -- the days
    have c3 : ∀ s6 s7 s8 s9 : Sl, compL (gNm 10) cYes (eCall m_nth_duty (aCons (eNm 2) (aCons (eBin dAdd (eNm 5) (eNm 10)) aNil))) [10] (rgD 0 (31 : Int).toNat) [.ext hs, .val (.tuple [.int p, .int q, .int k]), .val (ru p q a b), .val (.tuple [.int (q % p), .int p, .int ((q - k - 1) % p)]), .val (.int d), .val (.int f), s6, s7, s8, s9, .un, .un, .un] = some ((List.range 31).map fun j : Nat => PyData.int ((((f + j : Nat) : Int) * q + (q - k - 1)) / p), [.ext hs, .val (.tuple [.int p, .int q, .int k]), .val (ru p q a b), .val (.tuple [.int (q % p), .int p, .int ((q - k - 1) % p)]), .val (.int d), .val (.int f), s6, s7, s8, s9, .un, .un, .un]) := fun s6 s7 s8 s9 => comp_rgM 31 fun j hj => by
      have h4 := hnth (f + j) (by omega) (by omega)
      rw [show ((f + j : Nat) : Int) = f + j by omega]
      refine ⟨[.ext hs, .val (.tuple [.int p, .int q, .int k]), .val (ru p q a b), .val (.tuple [.int (q % p), .int p, .int ((q - k - 1) % p)]), .val (.int d), .val (.int f), s6, s7, s8, s9, .val (.int j), .un, .un], rfl, rfl, ?_, rfl⟩
      clear hd hsn
      walk_at "ev"
    have z31 : small62 31 = true := by decide
    have l3 : ((List.range 31).map fun j : Nat => PyData.int ((((f + j : Nat) : Int) * q + (q - k - 1)) / p)).length ≤ sizeLine := sz (by rw [List.length_map, List.length_range]; omega)
    have q3' : ∀ s6 s7 s8 s9 : Sl, q_law_are_distances_right_3 [.ext hs, .val (.tuple [.int p, .int q, .int k]), .val (ru p q a b), .val (.tuple [.int (q % p), .int p, .int ((q - k - 1) % p)]), .val (.int d), .val (.int f), s6, s7, s8, s9, .un, .un, .un] = some ((List.range 31).map fun j : Nat => PyData.int ((((f + j : Nat) : Int) * q + (q - k - 1)) / p), [.ext hs, .val (.tuple [.int p, .int q, .int k]), .val (ru p q a b), .val (.tuple [.int (q % p), .int p, .int ((q - k - 1) % p)]), .val (.int d), .val (.int f), s6, s7, s8, s9, .un, .un, .un]) := fun s6 s7 s8 s9 => by
      have c := c3 s6 s7 s8 s9
      clear hd hsn c3
      unfold q_law_are_distances_right_3
      walk_at "ev"
    have cut1 := range_drop 30 fun j : Nat => PyData.int ((((f + j : Nat) : Int) * q + (q - k - 1)) / p)
    have prs1 := prs_range (fun j : Nat => PyData.int ((((f + j : Nat) : Int) * q + (q - k - 1)) / p)) (fun j : Nat => PyData.int ((((f + (j + 1) : Nat) : Int) * q + (q - k - 1)) / p)) 31 30 (by omega)
    have cut2 : cutD ((List.range 31).map fun j : Nat => PyData.int ((((f + j : Nat) : Int) * q + (q - k - 1)) / p)) (some (1 + s0)) none = (List.range (31 - sn)).map fun j : Nat => PyData.int ((((f + (sn + j) : Nat) : Int) * q + (q - k - 1)) / p) := by
      rw [← hsn, cutD_from _ _ (by rw [List.length_map, List.length_range]; omega), drop_range]
    have prs2 := prs_range (fun j : Nat => PyData.int ((((f + j : Nat) : Int) * q + (q - k - 1)) / p)) (fun j : Nat => PyData.int ((((f + (sn + j) : Nat) : Int) * q + (q - k - 1)) / p)) 31 (31 - sn) (by omega)
    have gap1 : ∀ j : Nat, (((f + (j + 1) : Nat) : Int) * q + (q - k - 1)) / p - (((f + j : Nat) : Int) * q + (q - k - 1)) / p - d = if decide (T (q % p) p a2 b2 (f + j) < T (q % p) p a2 b2 (f + (j + 1))) = true then 1 else 0 := fun j => by
      have g := gap_nat (p := p) (q := q) (c := q - k - 1) (by omega) (f + j)
      have e5 : T (q % p) p a2 b2 ((f : Int) + j) = N.St (q % p) p ((q - k - 1) % p) (f + j) := by rw [T2]; unfold N.St; rw [Int.natCast_add]
      have e6 : T (q % p) p a2 b2 ((f : Int) + (j + 1)) = N.St (q % p) p ((q - k - 1) % p) (f + j + 1) := by rw [T2]; unfold N.St; rw [show ((f + j + 1 : Nat) : Int) = (f : Int) + (j + 1) by omega]
      rw [show f + (j + 1) = f + j + 1 by omega, g, e5, e6, ← hd]
      rcases N.St_step (p := q % p) (q := p) (k := (q - k - 1) % p) (by omega) hr0 (by omega) (f + j) with h | h
      · rw [decide_eq_false (by omega)]; simp; omega
      · rw [decide_eq_true (by omega)]; simp; omega
    have md := s_made R2 f 30 (by omega) (by omega) (by omega) (by omega)
    clear T2 hT hnth
    generalize hrow : rowL (q % p) p a2 b2 f 30 = row at md
    replace md : m_made [ru (q % p) p a2 b2, .int f, .int 30] = some (.str (rw_ row)) := md
    have hrl : row.length = 30 := by rw [← hrow]; unfold rowL; rw [List.length_map, List.length_range]
    have jn := dJoin_rw row (by omega)
    have jm : (row.map fun b => PyData.str (sgn b)) = (List.range 30).map fun j : Nat => PyData.str (sgn (decide (T (q % p) p a2 b2 (f + j) < T (q % p) p a2 b2 (f + (j + 1))))) := by rw [← hrow]; unfold rowL; rw [List.map_map]; rfl
    rw [jm] at jn
    generalize hDs : ((List.range 31).map fun j : Nat => PyData.int ((((f + j : Nat) : Int) * q + (q - k - 1)) / p)) = Ds at *
    have c2 : ∀ s7 s8 s9 : Sl, compL (gTupD 2 (gsCons (gNm 11) (gsCons (gNm 12) gsNil))) cYes (eCall dStr (aCons (eBin dSub (eBin dSub (eNm 12) (eNm 11)) (eNm 4)) aNil)) [11, 12] ((List.range 30).map fun j : Nat => PyData.tuple [PyData.int ((((f + j : Nat) : Int) * q + (q - k - 1)) / p), PyData.int ((((f + (j + 1) : Nat) : Int) * q + (q - k - 1)) / p)]) [.ext hs, .val (.tuple [.int p, .int q, .int k]), .val (ru p q a b), .val (.tuple [.int (q % p), .int p, .int ((q - k - 1) % p)]), .val (.int d), .val (.int f), .val (.list Ds), s7, s8, s9, .un, .un, .un] = some ((List.range 30).map fun j : Nat => PyData.str (sgn (decide (T (q % p) p a2 b2 (f + j) < T (q % p) p a2 b2 (f + (j + 1))))), [.ext hs, .val (.tuple [.int p, .int q, .int k]), .val (ru p q a b), .val (.tuple [.int (q % p), .int p, .int ((q - k - 1) % p)]), .val (.int d), .val (.int f), .val (.list Ds), s7, s8, s9, .un, .un, .un]) := fun s7 s8 s9 => comp_ofM _ fun j hj => by
      have g := gap1 j
      have g2 := dStr_sgn (decide (T (q % p) p a2 b2 (f + j) < T (q % p) p a2 b2 (f + (j + 1))))
      rw [← g] at g2
      refine ⟨[.ext hs, .val (.tuple [.int p, .int q, .int k]), .val (ru p q a b), .val (.tuple [.int (q % p), .int p, .int ((q - k - 1) % p)]), .val (.int d), .val (.int f), .val (.list Ds), s7, s8, s9, .un, .val (.int ((((f + j : Nat) : Int) * q + (q - k - 1)) / p)), .val (.int ((((f + (j + 1) : Nat) : Int) * q + (q - k - 1)) / p))], ?_, rfl, ?_, rfl⟩
      · clear hd hsn gap1 g g2 hDs hrow cut1 cut2 prs1 prs2 jm jn
        walk_at "ev"
      · clear hd hsn gap1 g hDs hrow cut1 cut2 prs1 prs2 jm jn
        walk_at "ev"
    have l2 : ((List.range 30).map fun j : Nat => PyData.str (sgn (decide (T (q % p) p a2 b2 (f + j) < T (q % p) p a2 b2 (f + (j + 1)))))).length ≤ sizeLine := sz (by rw [List.length_map, List.length_range]; omega)
    have q2' : ∀ s7 s8 s9 : Sl, q_law_are_distances_right_2 [.ext hs, .val (.tuple [.int p, .int q, .int k]), .val (ru p q a b), .val (.tuple [.int (q % p), .int p, .int ((q - k - 1) % p)]), .val (.int d), .val (.int f), .val (.list Ds), s7, s8, s9, .un, .un, .un] = some ((List.range 30).map fun j : Nat => PyData.str (sgn (decide (T (q % p) p a2 b2 (f + j) < T (q % p) p a2 b2 (f + (j + 1))))), [.ext hs, .val (.tuple [.int p, .int q, .int k]), .val (ru p q a b), .val (.tuple [.int (q % p), .int p, .int ((q - k - 1) % p)]), .val (.int d), .val (.int f), .val (.list Ds), s7, s8, s9, .un, .un, .un]) := fun s7 s8 s9 => by
      have c := c2 s7 s8 s9
      clear hd hsn c2 c3 gap1 hDs hrow cut2 prs2 jm jn
      unfold q_law_are_distances_right_2
      walk_at "ev"
    have c1 : ∀ v7 v8 : D, ∀ s9 : Sl, compL (gTupD 2 (gsCons (gNm 11) (gsCons (gNm 12) gsNil))) cYes (eBin dSub (eNm 12) (eNm 11)) [11, 12] ((List.range (31 - sn)).map fun j : Nat => PyData.tuple [PyData.int ((((f + j : Nat) : Int) * q + (q - k - 1)) / p), PyData.int ((((f + (sn + j) : Nat) : Int) * q + (q - k - 1)) / p)]) [.ext hs', .val (.tuple [.int p, .int q, .int k]), .val (ru p q a b), .val (.tuple [.int (q % p), .int p, .int ((q - k - 1) % p)]), .val (.int d), .val (.int f), .val (.list Ds), .val v7, .val v8, s9, .un, .un, .un] = some ((List.range (31 - sn)).map fun j : Nat => PyData.int ((((f + (sn + j) : Nat) : Int) * q + (q - k - 1)) / p - (((f + j : Nat) : Int) * q + (q - k - 1)) / p), [.ext hs', .val (.tuple [.int p, .int q, .int k]), .val (ru p q a b), .val (.tuple [.int (q % p), .int p, .int ((q - k - 1) % p)]), .val (.int d), .val (.int f), .val (.list Ds), .val v7, .val v8, s9, .un, .un, .un]) := fun v7 v8 s9 => comp_ofM _ fun j hj => by
      refine ⟨[.ext hs', .val (.tuple [.int p, .int q, .int k]), .val (ru p q a b), .val (.tuple [.int (q % p), .int p, .int ((q - k - 1) % p)]), .val (.int d), .val (.int f), .val (.list Ds), .val v7, .val v8, s9, .un, .val (.int ((((f + j : Nat) : Int) * q + (q - k - 1)) / p)), .val (.int ((((f + (sn + j) : Nat) : Int) * q + (q - k - 1)) / p))], ?_, rfl, ?_, rfl⟩
      · clear hd hsn gap1 hDs hrow cut1 cut2 prs1 prs2 jm jn
        walk_at "ev"
      · clear hd hsn gap1 hDs hrow cut1 cut2 prs1 prs2 jm jn
        walk_at "ev"
    have l1 : ((List.range (31 - sn)).map fun j : Nat => PyData.int ((((f + (sn + j) : Nat) : Int) * q + (q - k - 1)) / p - (((f + j : Nat) : Int) * q + (q - k - 1)) / p)).length ≤ sizeLine := sz (by rw [List.length_map, List.length_range]; omega)
    have q1' : ∀ v7 : D, ∀ s9 : Sl, q_law_are_distances_right_1 [.ext hs', .val (.tuple [.int p, .int q, .int k]), .val (ru p q a b), .val (.tuple [.int (q % p), .int p, .int ((q - k - 1) % p)]), .val (.int d), .val (.int f), .val (.list Ds), .val v7, .val (.int (1 + s0)), s9, .un, .un, .un] = some ((List.range (31 - sn)).map fun j : Nat => PyData.int ((((f + (sn + j) : Nat) : Int) * q + (q - k - 1)) / p - (((f + j : Nat) : Int) * q + (q - k - 1)) / p), [.ext hs', .val (.tuple [.int p, .int q, .int k]), .val (ru p q a b), .val (.tuple [.int (q % p), .int p, .int ((q - k - 1) % p)]), .val (.int d), .val (.int f), .val (.list Ds), .val v7, .val (.int (1 + s0)), s9, .un, .un, .un]) := fun v7 s9 => by
      have c := c1 v7 (.int (1 + s0)) s9
      clear hd hsn c1 c2 c3 gap1 hDs hrow cut1 prs1 jm jn
      unfold q_law_are_distances_right_1
      walk_at "ev"
    -- the far distances
    have hvals : ∀ v ∈ ((List.range (31 - sn)).map fun j : Nat => (((f + (sn + j) : Nat) : Int) * q + (q - k - 1)) / p - (((f + j : Nat) : Int) * q + (q - k - 1)) / p), v = (1 + s0) * q / p ∨ v = (1 + s0) * q / p + 1 := by
      intro v hv
      obtain ⟨j, _, rfl⟩ := List.mem_map.mp hv
      have e5 : ((f + (sn + j) : Nat) : Int) * q + (q - k - 1) = (((f + j : Nat) : Int) * q + (q - k - 1)) + (1 + s0) * q := by
        rw [show ((f + (sn + j) : Nat) : Int) = ((f + j : Nat) : Int) + (1 + s0) by omega, Int.add_mul]; omega
      rw [e5]
      rcases div_add (A := ((f + j : Nat) : Int) * q + (q - k - 1)) (B := (1 + s0) * q) (p := p) (by omega) with h | h <;> omega
    have hne : ((List.range (31 - sn)).map fun j : Nat => (((f + (sn + j) : Nat) : Int) * q + (q - k - 1)) / p - (((f + j : Nat) : Int) * q + (q - k - 1)) / p) ≠ [] := by
      intro e
      have := congrArg List.length e
      rw [List.length_map, List.length_range] at this
      simp at this
      omega
    obtain ⟨mx, em, hmx⟩ := dMax_some hne
    obtain ⟨mn, en, hmn⟩ := dMin_some hne
    have v1 := hvals mx hmx
    have v2 := hvals mn hmn
    rw [List.map_map] at em en
    replace em : dMax [.list ((List.range (31 - sn)).map fun j : Nat => PyData.int ((((f + (sn + j) : Nat) : Int) * q + (q - k - 1)) / p - (((f + j : Nat) : Int) * q + (q - k - 1)) / p))] = some (.int mx) := em
    replace en : dMin [.list ((List.range (31 - sn)).map fun j : Nat => PyData.int ((((f + (sn + j) : Nat) : Int) * q + (q - k - 1)) / p - (((f + j : Nat) : Int) * q + (q - k - 1)) / p))] = some (.int mn) := en
    have t1 : decide (1 < mx - mn) = false := decide_eq_false (by omega)
    have t2 : decide (mn < (1 + s0) * q / p) = false := decide_eq_false (by omega)
    have gm : PL.MulOk (1 + s0) q := PL.MulOk.l (by omega) (by omega)
    have gv : DivOk p := DivOk.s (by omega) (by omega)
    refine ⟨hs', .list Ds, .str (rw_ row), .int (1 + s0), .list ((List.range (31 - sn)).map fun j : Nat => PyData.int ((((f + (sn + j) : Nat) : Int) * q + (q - k - 1)) / p - (((f + j : Nat) : Int) * q + (q - k - 1)) / p)), oh', ?_⟩
    generalize ((List.range (31 - sn)).map fun j : Nat => PyData.int ((((f + (sn + j) : Nat) : Int) * q + (q - k - 1)) / p - (((f + j : Nat) : Int) * q + (q - k - 1)) / p)) = Fs at *
    generalize ((List.range 30).map fun j : Nat => PyData.str (sgn (decide (T (q % p) p a2 b2 (f + j) < T (q % p) p a2 b2 (f + (j + 1)))))) = Ss at *
    clear hd hsn c1 c2 c3 gap1 hDs hrow cut1 cut2 prs1 prs2 jm hvals hne v1 v2 hmx hmn hrl
    rcases hsl with ⟨rfl, rfl, rfl, rfl⟩ | ⟨v6, v7, v8, v9, rfl, rfl, rfl, rfl⟩
    · unfold b_law_are_distances_right_1
      walk_at "ev"
    · unfold b_law_are_distances_right_1
      walk_at "ev"
  obtain ⟨e', w1, hw⟩ := for_of (g := gNm 5) (b := b_law_are_distances_right_1) PyData.int (fun pre e => ∃ hs, HandOk hs ∧ (e = [.ext hs, .val (.tuple [.int p, .int q, .int k]), .val (ru p q a b), .val (.tuple [.int (q % p), .int p, .int ((q - k - 1) % p)]), .val (.int d), .un, .un, .un, .un, .un, .un, .un, .un] ∨ ∃ v5 v6 v7 v8 v9, e = [.ext hs, .val (.tuple [.int p, .int q, .int k]), .val (ru p q a b), .val (.tuple [.int (q % p), .int p, .int ((q - k - 1) % p)]), .val (.int d), .val v5, .val v6, .val v7, .val v8, .val v9, .un, .un, .un]))
    [0, x, y] [] [.ext h3, .val (.tuple [.int p, .int q, .int k]), .val (ru p q a b), .val (.tuple [.int (q % p), .int p, .int ((q - k - 1) % p)]), .val (.int d), .un, .un, .un, .un, .un, .un, .un, .un] (fun pre i post e he => fun ⟨hs, oh, hh⟩ => by
      have hi : i ∈ [0, x, y] := by
        rw [show ([] : List Int) ++ [0, x, y] = [0, x, y] from rfl] at he
        rw [← he]; simp
      have hi2 : ∃ f : Nat, i = f ∧ (f : Int) ≤ 100000000000 := by
        simp at hi
        exact ⟨i.toNat, by omega, by omega⟩
      obtain ⟨f, rfl, hf1⟩ := hi2
      rcases hh with rfl | ⟨v5, v6, v7, v8, v9, rfl⟩
      · obtain ⟨hs', w6, w7, w8, w9, oh', eb⟩ := body hs f .un .un .un .un oh hf1 (.inl ⟨rfl, rfl, rfl, rfl⟩)
        exact ⟨_, _, rfl, .inl eb, hs', oh', .inr ⟨_, _, _, _, _, rfl⟩⟩
      · obtain ⟨hs', w6, w7, w8, w9, oh', eb⟩ := body hs f (.val v6) (.val v7) (.val v8) (.val v9) oh hf1 (.inr ⟨_, _, _, _, rfl, rfl, rfl, rfl⟩)
        exact ⟨_, _, rfl, .inl eb, hs', oh', .inr ⟨_, _, _, _, _, rfl⟩⟩) ⟨h3, o3, .inl rfl⟩
  obtain ⟨hs4, o4, hh⟩ := hw
  have e11 := pk11
  have w2 : w_law_are_distances_right_1 [.ext h1, .val (.tuple [.int p, .int q, .int k]), .val (ru p q a b), .val (.tuple [.int (q % p), .int p, .int ((q - k - 1) % p)]), .val (.int d), .un, .un, .un, .un, .un, .un, .un, .un] = some (.nx e') := by
    replace w1 : forL (gNm 5) b_law_are_distances_right_1 [.int 0, .int x, .int y] _ = _ := w1
    clear body hnth hd hh hT T2
    unfold w_law_are_distances_right_1
    walk_at "ev"
  refine ⟨hs4, ?_, o4⟩
  clear body hnth hd w1 hT T2
  rcases hh with rfl | ⟨v5, v6, v7, v8, v9, rfl⟩
  · skip
    refine mH_ev rfl ?_
    show rtHO (t_law_are_distances_right [.ext (hs), .val (.tuple [.int p, .int q, .int k]), .un, .un, .un, .un, .un, .un, .un, .un, .un, .un, .un]) = _
    unfold t_law_are_distances_right
    walk_at "ev"
  · skip
    refine mH_ev rfl ?_
    show rtHO (t_law_are_distances_right [.ext (hs), .val (.tuple [.int p, .int q, .int k]), .un, .un, .un, .un, .un, .un, .un, .un, .un, .un, .un]) = _
    unfold t_law_are_distances_right
    walk_at "ev"
end W.S

set_option maxHeartbeats 4000000
namespace W.S
open PySem PySem.Spec PyProof.Rows L2 PL
local macro_rules | `(tactic| walk_at "ev") => `(tactic| simp only [nm0, no0, svu0, svv0, svo0, sou0, sov0, soo0, st0, gt0, mo0, po0, la0, lv0, me0, pe0, le0, nm1, no1, svu1, svv1, svo1, sou1, sov1, soo1, st1, gt1, mo1, po1, la1, lv1, me1, pe1, le1, nm2, no2, svu2, svv2, svo2, sou2, sov2, soo2, st2, gt2, mo2, po2, la2, lv2, me2, pe2, le2, nm3, no3, svu3, svv3, svo3, sou3, sov3, soo3, st3, gt3, mo3, po3, la3, lv3, nm4, no4, svu4, svv4, svo4, sou4, sov4, soo4, st4, gt4, mo4, po4, la4, lv4, nm5, no5, svu5, svv5, svo5, sou5, sov5, soo5, st5, gt5, mo5, po5, la5, lv5, nm6, no6, svu6, svv6, svo6, sou6, sov6, soo6, st6, gt6, mo6, po6, la6, lv6, nm7, no7, svu7, svv7, svo7, sou7, sov7, soo7, st7, gt7, mo7, po7, la7, lv7, nm8, no8, svu8, svv8, svo8, sou8, sov8, soo8, st8, gt8, mo8, po8, la8, lv8, nm9, no9, svu9, svv9, svo9, sou9, sov9, soo9, st9, gt9, mo9, po9, la9, lv9, nm10, no10, svu10, svv10, svo10, sou10, sov10, soo10, st10, gt10, mo10, po10, la10, lv10, nm11, no11, svu11, svv11, svo11, sou11, sov11, soo11, st11, gt11, mo11, po11, la11, lv11, nm12, no12, svu12, svv12, svo12, sou12, sov12, soo12, st12, gt12, mo12, po12, la12, lv12, nm13, no13, svu13, svv13, svo13, sou13, sov13, soo13, st13, gt13, mo13, po13, la13, lv13, nm14, no14, svu14, svv14, svo14, sou14, sov14, soo14, st14, gt14, mo14, po14, la14, lv14, nm15, no15, svu15, svv15, svo15, sou15, sov15, soo15, st15, gt15, mo15, po15, la15, lv15, nm16, no16, svu16, svv16, svo16, sou16, sov16, soo16, st16, gt16, mo16, po16, la16, lv16, nm17, no17, svu17, svv17, svo17, sou17, sov17, soo17, st17, gt17, mo17, po17, la17, lv17, nm18, no18, svu18, svv18, svo18, sou18, sov18, soo18, st18, gt18, mo18, po18, la18, lv18, nm19, no19, svu19, svv19, svo19, sou19, sov19, soo19, st19, gt19, mo19, po19, la19, lv19, nm20, no20, svu20, svv20, svo20, sou20, sov20, soo20, st20, gt20, mo20, po20, la20, lv20, nm21, no21, svu21, svv21, svo21, sou21, sov21, soo21, st21, gt21, mo21, po21, la21, lv21, nm22, no22, svu22, svv22, svo22, sou22, sov22, soo22, st22, gt22, mo22, po22, la22, lv22, nm23, no23, svu23, svv23, svo23, sou23, sov23, soo23, st23, gt23, mo23, po23, la23, lv23, nm24, no24, svu24, svv24, svo24, sou24, sov24, soo24, st24, gt24, mo24, po24, la24, lv24, nm25, no25, svu25, svv25, svo25, sou25, sov25, soo25, st25, gt25, mo25, po25, la25, lv25, e_C, e_Seq, q_nx, q_rt, q_bk, q_ct, e_If, i_t, i_f, e_Next, e_RetN, e_Break, e_Cont, e_Ret, r_s, e_Expr, x_s, nx_s, e_Set, set_s, e_Own, own_s, e_Asg, asg_s, g_nm, g_tup, gs_nil, gs_cons, gsb_s, e_Par, par_s, par2_s, e_Par3, par3_s, e_Bin, bin_s, binC_s, binD_s, e_Un, un_s, e_Chain, ch_s, chC_s, chD_t, chD_f, e_And, and_t, and_f, e_Or, or_t, or_f, e_Not, not_s, e_IfE, ife_t, ife_f, e_Tst, tst_s, e_CAnd, e_COr, cand_t, cand_f, cor_t, cor_f, e_CNot, cnot_s, e_aN, e_aC, con_s, conC_s, e_Tup, tup_s, e_Lst, lst_s, e_Of, of_s, e_Call, call_s, callC_s, e_FCall, fcal_s, fcalC_s, e_Meth, mth_s, mthC_s, e_Sl, sl_s, slC_s, slD_s, e_oN, e_oS, o_s, e_Ixo, ixo_s, ixoA_s, ixoC_s, e_Leno, len_s, e_CallH, hcA_s, hcB_s, hcC_s, hcD_s, e_Isi, isi_int_int, isi_int_bool, isi_int_str, isi_int_list, isi_int_tuple, isi_bool_int, isi_bool_bool, isi_bool_str, isi_bool_list, isi_bool_tuple, isi_str_int, isi_str_bool, isi_str_str, isi_str_list, isi_str_tuple, isi_list_int, isi_list_bool, isi_list_str, isi_list_list, isi_list_tuple, isi_tuple_int, isi_tuple_bool, isi_tuple_str, isi_tuple_list, isi_tuple_tuple, isi_none_int, isi_none_bool, isi_none_str, isi_none_list, isi_none_tuple, e_Comp, cmp_s, cmpE_s, wp_n, wp_c, bk_n, bk_c, bks_v, bks_u, bks_o, nx_n, nx_c, nx1_v, nx1_u, nx1_o, e_For, for_s, e_iAny, any_l, any_t, any_s, e_iR1, e_iR2, e_iZp, e_iEn, rg1_s, rg2_s, zp_s, en_l, en_s, e_App, apA_s, apB_s, e_Put, ptA_s, ptB_s, ptC_s, ptD_s, d_add, d_adds, d_addl, d_muls, d_sub, d_mul, d_div, d_mod, d_neg, d_lt, d_lts, d_le, d_gt, d_ge, d_eqi, d_eqs, d_eqb, d_nei, d_nes, d_neb, d_isn, d_isnn, isN_n, isN_i, isN_b, isN_s, isN_l, isN_t, ix_t0, at_0, ix_t1, at_1, ix_t2, at_2, ix_t3, at_3, ix_t4, at_4, ix_l, c_lenl, c_lent, c_lens, c_abs, c_int, c_tupl, c_tupt, c_lst, c_lstt, c_max2, c_min2, s_list, s_tup, s_str, e_ParM, pm_s, e_mN, e_mD, md_s, mdC_s, e_mL, ml_s, mlC_s, sms_n, sms_d, sms_l, sm_s, e_Rev, rv_s, retO_rt, retO_nx, szA0, szA1, szA2, szA3, szA4, szA5, szA6, szB0, szB1, e_fSeq, fsq_s, e_fRet, fret_s, mk1, mk2, mk3, mk4, mk5, mk6, dk1, dk2, dk3, zk1, zk2, zk3, pk18, pk6, pk4, ix5_0, ix5_1, ix5_2, ix5_3, ix5_4, List.set_cons_zero, List.set_cons_succ, rtHO_rt, rtHO_nx, List.length_cons, List.length_nil, if_true, if_false, Bool.not_true, Bool.not_false, decide_true, decide_false, true_and, and_true, Bool.and_true, Bool.true_and, *])

theorem shaped_tup (l : List D) (h1 : PyData.canLayAll0 l = true) (h2 : PyData.depthAll l ≤ 10) : SeqAt.shaped (.tuple l) = true := by
  unfold SeqAt.shaped
  rw [show PyData.canLay0 (.tuple l) = true from h1, show PyData.depth (.tuple l) = PyData.depthAll l + 1 from rfl]
  simp; omega
theorem shaped_lst (l : List D) (h1 : PyData.canLayAll0 l = true) (h2 : PyData.depthAll l ≤ 10) : SeqAt.shaped (.list l) = true := by
  unfold SeqAt.shaped
  rw [show PyData.canLay0 (.list l) = true from h1, show PyData.depth (.list l) = PyData.depthAll l + 1 from rfl]
  simp; omega
theorem lay_ints (l : List Int) (r : List D) : PyData.canLayAll0 (l.map PyData.int ++ r) = PyData.canLayAll0 r := by
  induction l with
  | nil => rfl
  | cons a s ih => simp [PyData.canLayAll0, PyData.canLay0, ih]
theorem dep_ints (l : List Int) (r : List D) : PyData.depthAll (l.map PyData.int ++ r) = PyData.depthAll r := by
  induction l with
  | nil => rfl
  | cons a s ih => simp [PyData.depthAll, PyData.depth, ih]
theorem s_ladder {p n : Nat} {k : Int} {d : D} (n1 : 1 ≤ n) (n5 : n ≤ 500) (h : m_ladder_of [.str (rw_ (rowF (N.St p n k) n))] = some d) : m_ladder [.str (rw_ (rowF (N.St p n k) n))] = some d := by
  have h1 := s_check_row (rowF (N.St p n k) n) (by rw [rowF_len]; omega) (by rw [rowF_len]; omega)
  refine mD_ev rfl ?_
  show retO (t_ladder [.val (.str (rw_ (rowF (N.St p n k) n)))]) = _
  unfold t_ladder
  walk_at "ev"
theorem s_round {p q k : Int} (hf : Nf p q k) (p1 : 1 ≤ p) (q5 : q ≤ 500) : m_law_is_round_right [.tuple [.int p, .int q, .int k]] = some (.bool true) := by
  obtain ⟨p0, pq, q1, q2, pg, k0, kq⟩ := hf
  have hr0 := Int.emod_nonneg q (show p ≠ 0 by omega)
  have hr1 := Int.emod_lt_of_pos q (show 0 < p by omega)
  have hc1 := Int.emod_lt_of_pos (q - k - 1) (show 0 < p by omega)
  have hc0 := Int.emod_nonneg (q - k - 1) (show p ≠ 0 by omega)
  have hcd := Int.mul_ediv_add_emod (q - k - 1) p
  have hf0 : 0 ≤ (q - k - 1) / p := Int.ediv_nonneg (by omega) (by omega)
  have hf1 : (q - k - 1) / p ≤ q - k - 1 := Int.ediv_le_self _ (by omega)
  obtain ⟨n, hn⟩ : ∃ n : Nat, q = n := ⟨q.toNat, by omega⟩
  obtain ⟨m, hm⟩ : ∃ m : Nat, p = ((m + 1 : Nat) : Int) := ⟨(p - 1).toNat, by omega⟩
  have ed := s_law_derived p1 (by omega) pq pg k0 kq
  have er := s_law_made (by omega) (by omega) p0 pq k0 kq ((q - k - 1) / p) n hf0 (by omega) (by omega)
  have ek : ((q - k - 1) / p * p + k) % q = q - 1 - (q - k - 1) % p := by
    rw [Int.mul_comm, show p * ((q - k - 1) / p) + k = q - 1 - (q - k - 1) % p by omega]
    exact Int.emod_eq_of_lt (by omega) (by omega)
  rw [ek, ← hn] at er
  generalize hc : (q - k - 1) % p = c at *
  have ek2 : (q - (q - 1 - c) - 1) % p = c := by rw [show q - (q - 1 - c) - 1 = c by omega]; exact Int.emod_eq_of_lt hc0 hc1
  generalize hkk : q - 1 - c = k' at *
  have hk'0 : 0 ≤ k' := by omega
  have hk'q : k' < q := by omega
  obtain ⟨a2, b2, u2, R2, _, T2⟩ := s_rule_of (p := q % p) (q := p) (k := c) ⟨hr0, by omega, p1, by omega, by rw [N_gcd p q p1 pq]; exact pg, hc0, hc1⟩ (by omega)
  have md := s_made R2 0 (m + 1) (by omega) (by omega) (by omega) (by omega)
  rw [rowL_eq T2, ← hm] at md
  have hmn : m + 1 ≤ n := by omega
  have e1 := s_der (m := m) (n := n) (k := k') hmn (by omega) hk'0 (by omega)
  have e2 := s_gaps (m := m) (n := n) (k := k') hmn (by omega) hk'0 (by omega)
  have e3 := any_rowF (m := m) (n := n) (k := k') hmn hk'0 (by omega)
  obtain ⟨ps, w, hps, e4⟩ := s_ladder_of (p := m + 1) (n := n) (k := k') hmn (by omega) (by omega) hk'0 (by omega)
  have e5 := s_ladder (by omega) (by omega) e4
  have hl : (rowF (N.St ((m + 1 : Nat) : Int) n k') n).length = n := rowF_len _ _
  have e6 := s_derived (rowF (N.St ((m + 1 : Nat) : Int) n k') n) (by omega) (by omega) e3 e1
  have e7 := s_gaps_of (rowF (N.St ((m + 1 : Nat) : Int) n k') n) (by omega) (by omega) e3 e2
  rw [← hm, ← hn] at e5 e6 e7
  rw [ek2] at e6 e7
  generalize hd : q / p = d at ed e6 e7
  -- the gaps by the derived row's signs
  have hG : ((List.range (m + 1)).map fun j : Nat => PyData.int (d + (N.St (q % p) p c (j + 1) - N.St (q % p) p c j))) = (rowF (N.St (q % p) p c) (m + 1)).map fun b => PyData.int (d + if b then 1 else 0) := by
    unfold rowF
    rw [List.map_map]
    apply List.map_congr_left
    intro j _
    show _ = PyData.int (d + if decide (N.St (q % p) p c j < N.St (q % p) p c (j + 1)) = true then 1 else 0)
    rcases N.St_step (p := q % p) (q := p) (k := c) (by omega) hr0 (by omega) j with h | h
    · rw [decide_eq_false (by omega), h]; simp
    · rw [decide_eq_true (by omega), h]; simp; omega
  rw [hG] at e7
  have hl2 : (rowF (N.St (q % p) p c) (m + 1)).length = m + 1 := rowF_len _ _
  generalize hrow2 : rowF (N.St (q % p) p c) (m + 1) = row2 at *
  generalize hrow : rw_ (rowF (N.St p q k') n) = row at *
  have n1 : dNe (.tuple [.str (rw_ row2), .int d]) (.tuple [.str (rw_ row2), .int d]) = some (.bool false) := dNe_same (shaped_tup _ (by simp [PyData.canLayAll0, PyData.canLay0, strOk_rw]) (by simp [PyData.depthAll, PyData.depth])) trivial
  have n2 : dNe (.tuple (row2.map fun b => PyData.int (d + if b then 1 else 0))) (.tuple (row2.map fun b => PyData.int (d + if b then 1 else 0))) = some (.bool false) := dNe_same (by
    have h := shaped_tup ((row2.map fun b => d + if b then 1 else 0).map PyData.int) (by have := lay_ints (row2.map fun b => d + if b then 1 else 0) []; rw [List.append_nil] at this; rw [this]; rfl) (by have := dep_ints (row2.map fun b => d + if b then 1 else 0) []; rw [List.append_nil] at this; rw [this]; exact Nat.zero_le _)
    rw [List.map_map] at h
    exact h) trivial
  have n3 : dEq (.list ((cf (m + 1) n).map PyData.int ++ [.none])) (.list ((cf (m + 1) n).map PyData.int ++ [.none])) = some (.bool true) := dEq_same (shaped_lst _ (by rw [lay_ints]; rfl) (by rw [dep_ints]; simp [PyData.depthAll, PyData.depth])) trivial
  have hcl : (cf (m + 1) n).length ≤ 500 := Nat.le_trans (cf_len _ _) (by omega)
  -- the sum with the signs
  have c2 := comp_ofM (e0 := [.val (.tuple [.int p, .int q, .int k]), .val (.int p), .val (.int q), .val (.int k), .val (.int ((q - k - 1) / p)), .val (.str row), .val (.tuple [.int (q % p), .int p, .int c]), .val (.int d), .val (.tuple [.str (rw_ row2), .int d]), .un, .un, .un, .un, .un, .un]) (g := gNm 13) (t := cYes) (vs := [13]) (me := eBin dAdd (eNm 7) (eCall dInt (aCons (eNm 13) aNil))) (ι := fun b => PyData.str (sgn b)) (f := fun b => PyData.int (d + if b then 1 else 0)) row2 fun b hb => by
    have h := dInt_sgn b
    refine ⟨[.val (.tuple [.int p, .int q, .int k]), .val (.int p), .val (.int q), .val (.int k), .val (.int ((q - k - 1) / p)), .val (.str row), .val (.tuple [.int (q % p), .int p, .int c]), .val (.int d), .val (.tuple [.str (rw_ row2), .int d]), .un, .un, .un, .un, .val (.str (sgn b)), .un], rfl, rfl, ?_, rfl⟩
    clear hn hm hd hrow hrow2 hkk hc ek ek2 hG hps n2 n3
    walk_at "ev"
  rw [← chD_rw] at c2
  have l2 : (row2.map fun b => PyData.int (d + if b then 1 else 0)).length ≤ sizeLine := sz (by rw [List.length_map]; omega)
  have z2 : (rw_ row2).length ≤ sizeLine := by rw [rw_len]; exact sz (by omega)
  have q2' : q_law_is_round_right_2 [.val (.tuple [.int p, .int q, .int k]), .val (.int p), .val (.int q), .val (.int k), .val (.int ((q - k - 1) / p)), .val (.str row), .val (.tuple [.int (q % p), .int p, .int c]), .val (.int d), .val (.tuple [.str (rw_ row2), .int d]), .un, .un, .un, .un, .un, .un] = some (row2.map fun b => PyData.int (d + if b then 1 else 0), [.val (.tuple [.int p, .int q, .int k]), .val (.int p), .val (.int q), .val (.int k), .val (.int ((q - k - 1) / p)), .val (.str row), .val (.tuple [.int (q % p), .int p, .int c]), .val (.int d), .val (.tuple [.str (rw_ row2), .int d]), .un, .un, .un, .un, .un, .un]) := by
    clear hn hm hd hrow hrow2 hkk hc ek ek2 hG hps n2 n3
    unfold q_law_is_round_right_2
    walk_at "ev"
  clear c2 hG
  -- the quotients
  obtain ⟨e', w1, hr, rfl⟩ := while_indM (t := tst (eBin dGt (eBin dIx (eNm 10) (eC (.int 0))) (eC (.int 0)))) (b := b_law_is_round_right_1) (e := [.val (.tuple [.int p, .int q, .int k]), .val (.int p), .val (.int q), .val (.int k), .val (.int ((q - k - 1) / p)), .val (.str row), .val (.tuple [.int (q % p), .int p, .int c]), .val (.int d), .val (.tuple [.str (rw_ row2), .int d]), .own [], .val (.tuple [.int p, .int q]), .un, .un, .un, .un])
    (fun P e => ∃ (ds : List Int) (n' : Nat), e = [.val (.tuple [.int p, .int q, .int k]), .val (.int p), .val (.int q), .val (.int k), .val (.int ((q - k - 1) / p)), .val (.str row), .val (.tuple [.int (q % p), .int p, .int c]), .val (.int d), .val (.tuple [.str (rw_ row2), .int d]), .own (ds.map PyData.int), .val (.tuple [.int P, .int n']), .un, .un, .un, .un] ∧ P ≤ 500 ∧ n' ≤ 500 ∧ ds ++ cf P n' = cf (m + 1) n)
    (fun e => ∃ hr : D, e = [.val (.tuple [.int p, .int q, .int k]), .val (.int p), .val (.int q), .val (.int k), .val (.int ((q - k - 1) / p)), .val (.str row), .val (.tuple [.int (q % p), .int p, .int c]), .val (.int d), .val (.tuple [.str (rw_ row2), .int d]), .own ((cf (m + 1) n).map PyData.int), .val hr, .un, .un, .un, .un])
    (fun P e ⟨ds, n', he, hP, hn', hds⟩ => by
      subst he
      cases P with
      | zero =>
        rw [cf_zero, List.append_nil] at hds
        subst hds
        refine .inl ⟨_, ?_, .tuple [.int ((0 : Nat) : Int), .int n'], rfl⟩
        have h4 : decide ((0 : Int) < ((0 : Nat) : Int)) = false := by decide
        clear hn hm hd hrow hrow2 hkk hc ek ek2 hps n2 n3 q2'
        walk_at "ev"
        try rfl
      | succ P =>
        have h4 : decide ((0 : Int) < ((P + 1 : Nat) : Int)) = true := decide_eq_true (by omega)
        have g1 : DivOk ((P + 1 : Nat) : Int) := DivOk.s (by omega) (by omega)
        have g2 : PL.MulOk ((n' : Int) / ((P + 1 : Nat) : Int)) ((P + 1 : Nat) : Int) := PL.MulOk.r (by omega) (by omega)
        have h5 : atI (ds.map PyData.int ++ [PyData.int ((n' : Int) / ((P + 1 : Nat) : Int))]) (-1) = some (PyData.int ((n' : Int) / ((P + 1 : Nat) : Int))) := atI_last
        have h6 : (n' : Int) - (n' : Int) / ((P + 1 : Nat) : Int) * ((P + 1 : Nat) : Int) = ((n' % (P + 1) : Nat) : Int) := by
          have := Int.mul_ediv_add_emod (n' : Int) ((P + 1 : Nat) : Int)
          rw [Int.natCast_emod, Int.mul_comm]; omega
        have hlen : (ds.map PyData.int).length < sizeLine := szl (by
          have := congrArg List.length hds
          rw [List.length_append] at this
          rw [List.length_map]; omega)
        have hlt : n' % (P + 1) < P + 1 := Nat.mod_lt _ (Nat.succ_pos _)
        refine .inr ⟨[.val (.tuple [.int p, .int q, .int k]), .val (.int p), .val (.int q), .val (.int k), .val (.int ((q - k - 1) / p)), .val (.str row), .val (.tuple [.int (q % p), .int p, .int c]), .val (.int d), .val (.tuple [.str (rw_ row2), .int d]), .own (ds.map PyData.int), .val (.tuple [.int ((P + 1 : Nat) : Int), .int n']), .un, .un, .un, .un], [.val (.tuple [.int p, .int q, .int k]), .val (.int p), .val (.int q), .val (.int k), .val (.int ((q - k - 1) / p)), .val (.str row), .val (.tuple [.int (q % p), .int p, .int c]), .val (.int d), .val (.tuple [.str (rw_ row2), .int d]), .own ((ds ++ [(n' : Int) / ((P + 1 : Nat) : Int)]).map PyData.int), .val (.tuple [.int ((n' % (P + 1) : Nat) : Int), .int ((P + 1 : Nat) : Int)]), .un, .un, .un, .un], n' % (P + 1), hlt, ?_, ?_, ds ++ [(n' : Int) / ((P + 1 : Nat) : Int)], P + 1, rfl, by omega, hP, ?_⟩
        · clear hn hm hd hrow hrow2 hkk hc ek ek2 hps n2 n3 q2' h5 h6 hds
          walk_at "ev"
          try rfl
        · rw [List.map_append, List.map_cons, List.map_nil]
          unfold b_law_is_round_right_1
          clear hn hm hd hrow hrow2 hkk hc ek ek2 hps n2 n3 q2' hds h4
          walk_at "ev"
        · rw [← hds, cf_succ, List.append_assoc]; rfl) (m + 1) ⟨[], n, by rw [hm, hn]; rfl, by omega, by omega, rfl⟩ (Nat.lt_of_le_of_lt (show m + 1 ≤ 500 by omega) (by unfold fuel; decide))
  replace w1 : w_law_is_round_right_1 [.val (.tuple [.int p, .int q, .int k]), .val (.int p), .val (.int q), .val (.int k), .val (.int ((q - k - 1) / p)), .val (.str row), .val (.tuple [.int (q % p), .int p, .int c]), .val (.int d), .val (.tuple [.str (rw_ row2), .int d]), .own [], .val (.tuple [.int p, .int q]), .un, .un, .un, .un] = _ := w1
  -- the stages
  have hst : (stg ps ++ [PyData.tuple [w, .none]]) = (ps.map (fun x => ((x.1, PyData.int x.2) : D × D)) ++ [(w, PyData.none)]).map fun x => PyData.tuple [x.1, x.2] := by
    unfold stg
    rw [List.map_append, List.map_map]; rfl
  have hst2 : (ps.map (fun x => ((x.1, PyData.int x.2) : D × D)) ++ [(w, PyData.none)]).map (fun x => x.2) = (cf (m + 1) n).map PyData.int ++ [.none] := by
    rw [List.map_append, List.map_map, ← hps, List.map_map]; rfl
  have c1 := comp_ofM (e0 := [.val (.tuple [.int p, .int q, .int k]), .val (.int p), .val (.int q), .val (.int k), .val (.int ((q - k - 1) / p)), .val (.str row), .val (.tuple [.int (q % p), .int p, .int c]), .val (.int d), .val (.tuple [.str (rw_ row2), .int d]), .own ((cf (m + 1) n).map PyData.int), .val hr, .val (.str "even"), .val (.tuple (stg ps ++ [PyData.tuple [w, .none]])), .un, .un]) (g := gNm 14) (t := cYes) (vs := [14]) (me := eBin dIx (eNm 14) (eC (.int 1))) (ι := fun x : D × D => PyData.tuple [x.1, x.2]) (f := fun x => x.2) (ps.map (fun x => ((x.1, PyData.int x.2) : D × D)) ++ [(w, PyData.none)]) fun x hx => by
    refine ⟨[.val (.tuple [.int p, .int q, .int k]), .val (.int p), .val (.int q), .val (.int k), .val (.int ((q - k - 1) / p)), .val (.str row), .val (.tuple [.int (q % p), .int p, .int c]), .val (.int d), .val (.tuple [.str (rw_ row2), .int d]), .own ((cf (m + 1) n).map PyData.int), .val hr, .val (.str "even"), .val (.tuple (stg ps ++ [PyData.tuple [w, .none]])), .un, .val (.tuple [x.1, x.2])], rfl, rfl, ?_, rfl⟩
    clear hn hm hd hrow hrow2 hkk hc ek ek2 hps n2 n3 q2' hst hst2 w1
    walk_at "ev"
  rw [← hst, hst2] at c1
  clear hst hst2
  generalize hCF : (cf (m + 1) n).map PyData.int = CF at *
  have l1 : CF.length + (0 + 1) ≤ sizeLine := sz (by rw [← hCF, List.length_map]; omega)
  have l3 : (CF ++ [PyData.none]).length ≤ sizeLine := by rw [List.length_append]; exact l1
  generalize (stg ps ++ [PyData.tuple [w, .none]]) = SG at *
  have q1' : q_law_is_round_right_1 [.val (.tuple [.int p, .int q, .int k]), .val (.int p), .val (.int q), .val (.int k), .val (.int ((q - k - 1) / p)), .val (.str row), .val (.tuple [.int (q % p), .int p, .int c]), .val (.int d), .val (.tuple [.str (rw_ row2), .int d]), .own CF, .val hr, .val (.str "even"), .val (.tuple SG), .un, .un] = some (CF ++ [PyData.none], [.val (.tuple [.int p, .int q, .int k]), .val (.int p), .val (.int q), .val (.int k), .val (.int ((q - k - 1) / p)), .val (.str row), .val (.tuple [.int (q % p), .int p, .int c]), .val (.int d), .val (.tuple [.str (rw_ row2), .int d]), .own CF, .val hr, .val (.str "even"), .val (.tuple SG), .un, .un]) := by
    clear hn hm hd hrow hrow2 hkk hc ek ek2 hps n2 n3 q2' w1 hCF
    unfold q_law_is_round_right_1
    walk_at "ev"
  have g1 : DivOk p := DivOk.s (by omega) (by omega)
  clear hn hm hd hrow hrow2 hkk hc ek ek2 hps c1 hCF T2 R2 e1 e2 e3 e4 hcd hl hl2
  refine mD_ev rfl ?_
  show retO (t_law_is_round_right [.val (.tuple [.int p, .int q, .int k]), .un, .un, .un, .un, .un, .un, .un, .un, .un, .un, .un, .un, .un, .un]) = _
  unfold t_law_is_round_right
  walk_at "ev"
end W.S

set_option maxHeartbeats 4000000
namespace W.S
open PySem PySem.Spec PyProof.Rows L2 PL
local macro_rules | `(tactic| walk_at "ev") => `(tactic| simp only [nm0, no0, svu0, svv0, svo0, sou0, sov0, soo0, st0, gt0, mo0, po0, la0, lv0, me0, pe0, le0, nm1, no1, svu1, svv1, svo1, sou1, sov1, soo1, st1, gt1, mo1, po1, la1, lv1, me1, pe1, le1, nm2, no2, svu2, svv2, svo2, sou2, sov2, soo2, st2, gt2, mo2, po2, la2, lv2, me2, pe2, le2, nm3, no3, svu3, svv3, svo3, sou3, sov3, soo3, st3, gt3, mo3, po3, la3, lv3, nm4, no4, svu4, svv4, svo4, sou4, sov4, soo4, st4, gt4, mo4, po4, la4, lv4, nm5, no5, svu5, svv5, svo5, sou5, sov5, soo5, st5, gt5, mo5, po5, la5, lv5, nm6, no6, svu6, svv6, svo6, sou6, sov6, soo6, st6, gt6, mo6, po6, la6, lv6, nm7, no7, svu7, svv7, svo7, sou7, sov7, soo7, st7, gt7, mo7, po7, la7, lv7, nm8, no8, svu8, svv8, svo8, sou8, sov8, soo8, st8, gt8, mo8, po8, la8, lv8, nm9, no9, svu9, svv9, svo9, sou9, sov9, soo9, st9, gt9, mo9, po9, la9, lv9, nm10, no10, svu10, svv10, svo10, sou10, sov10, soo10, st10, gt10, mo10, po10, la10, lv10, nm11, no11, svu11, svv11, svo11, sou11, sov11, soo11, st11, gt11, mo11, po11, la11, lv11, nm12, no12, svu12, svv12, svo12, sou12, sov12, soo12, st12, gt12, mo12, po12, la12, lv12, nm13, no13, svu13, svv13, svo13, sou13, sov13, soo13, st13, gt13, mo13, po13, la13, lv13, nm14, no14, svu14, svv14, svo14, sou14, sov14, soo14, st14, gt14, mo14, po14, la14, lv14, nm15, no15, svu15, svv15, svo15, sou15, sov15, soo15, st15, gt15, mo15, po15, la15, lv15, nm16, no16, svu16, svv16, svo16, sou16, sov16, soo16, st16, gt16, mo16, po16, la16, lv16, nm17, no17, svu17, svv17, svo17, sou17, sov17, soo17, st17, gt17, mo17, po17, la17, lv17, nm18, no18, svu18, svv18, svo18, sou18, sov18, soo18, st18, gt18, mo18, po18, la18, lv18, nm19, no19, svu19, svv19, svo19, sou19, sov19, soo19, st19, gt19, mo19, po19, la19, lv19, nm20, no20, svu20, svv20, svo20, sou20, sov20, soo20, st20, gt20, mo20, po20, la20, lv20, nm21, no21, svu21, svv21, svo21, sou21, sov21, soo21, st21, gt21, mo21, po21, la21, lv21, nm22, no22, svu22, svv22, svo22, sou22, sov22, soo22, st22, gt22, mo22, po22, la22, lv22, nm23, no23, svu23, svv23, svo23, sou23, sov23, soo23, st23, gt23, mo23, po23, la23, lv23, nm24, no24, svu24, svv24, svo24, sou24, sov24, soo24, st24, gt24, mo24, po24, la24, lv24, nm25, no25, svu25, svv25, svo25, sou25, sov25, soo25, st25, gt25, mo25, po25, la25, lv25, e_C, e_Seq, q_nx, q_rt, q_bk, q_ct, e_If, i_t, i_f, e_Next, e_RetN, e_Break, e_Cont, e_Ret, r_s, e_Expr, x_s, nx_s, e_Set, set_s, e_Own, own_s, e_Asg, asg_s, g_nm, g_tup, gs_nil, gs_cons, gsb_s, e_Par, par_s, par2_s, e_Par3, par3_s, e_Bin, bin_s, binC_s, binD_s, e_Un, un_s, e_Chain, ch_s, chC_s, chD_t, chD_f, e_And, and_t, and_f, e_Or, or_t, or_f, e_Not, not_s, e_IfE, ife_t, ife_f, e_Tst, tst_s, e_CAnd, e_COr, cand_t, cand_f, cor_t, cor_f, e_CNot, cnot_s, e_aN, e_aC, con_s, conC_s, e_Tup, tup_s, e_Lst, lst_s, e_Of, of_s, e_Call, call_s, callC_s, e_FCall, fcal_s, fcalC_s, e_Meth, mth_s, mthC_s, e_Sl, sl_s, slC_s, slD_s, e_oN, e_oS, o_s, e_Ixo, ixo_s, ixoA_s, ixoC_s, e_Leno, len_s, e_CallH, hcA_s, hcB_s, hcC_s, hcD_s, e_Isi, isi_int_int, isi_int_bool, isi_int_str, isi_int_list, isi_int_tuple, isi_bool_int, isi_bool_bool, isi_bool_str, isi_bool_list, isi_bool_tuple, isi_str_int, isi_str_bool, isi_str_str, isi_str_list, isi_str_tuple, isi_list_int, isi_list_bool, isi_list_str, isi_list_list, isi_list_tuple, isi_tuple_int, isi_tuple_bool, isi_tuple_str, isi_tuple_list, isi_tuple_tuple, isi_none_int, isi_none_bool, isi_none_str, isi_none_list, isi_none_tuple, e_Comp, cmp_s, cmpE_s, wp_n, wp_c, bk_n, bk_c, bks_v, bks_u, bks_o, nx_n, nx_c, nx1_v, nx1_u, nx1_o, e_For, for_s, e_iAny, any_l, any_t, any_s, e_iR1, e_iR2, e_iZp, e_iEn, rg1_s, rg2_s, zp_s, en_l, en_s, e_App, apA_s, apB_s, e_Put, ptA_s, ptB_s, ptC_s, ptD_s, d_add, d_adds, d_addl, d_muls, d_sub, d_mul, d_div, d_mod, d_neg, d_lt, d_lts, d_le, d_gt, d_ge, d_eqi, d_eqs, d_eqb, d_nei, d_nes, d_neb, d_isn, d_isnn, isN_n, isN_i, isN_b, isN_s, isN_l, isN_t, ix_t0, at_0, ix_t1, at_1, ix_t2, at_2, ix_t3, at_3, ix_t4, at_4, ix_l, c_lenl, c_lent, c_lens, c_abs, c_int, c_tupl, c_tupt, c_lst, c_lstt, c_max2, c_min2, s_list, s_tup, s_str, e_ParM, pm_s, e_mN, e_mD, md_s, mdC_s, e_mL, ml_s, mlC_s, sms_n, sms_d, sms_l, sm_s, e_Rev, rv_s, retO_rt, retO_nx, szA0, szA1, szA2, szA3, szA4, szA5, szA6, szB0, szB1, e_fSeq, fsq_s, e_fRet, fret_s, mk1, mk2, mk3, mk4, mk5, mk6, dk1, dk2, dk3, zk1, zk2, zk3, pk18, pk6, pk4, ix5_0, ix5_1, ix5_2, ix5_3, ix5_4, List.set_cons_zero, List.set_cons_succ, rtHO_rt, rtHO_nx, List.length_cons, List.length_nil, if_true, if_false, Bool.not_true, Bool.not_false, decide_true, decide_false, true_and, and_true, Bool.and_true, Bool.true_and, *])

theorem reprF (p q k : Int) (hp : p.natAbs < 10 ^ 12) (hq : q.natAbs < 10 ^ 12) (hk : k.natAbs < 10 ^ 12) : ∃ s, dRepr [.list [.tuple [.int p, .int q, .int k], .none]] = some (.str s) := by
  have l1 := log_lt hp
  have l2 := log_lt hq
  have l3 := log_lt hk
  refine ⟨_, if_pos ⟨?_, by simp [PyData.hasDict, PyData.hasDictAll], by simp [PyData.depth, PyData.depthAll], ?_⟩⟩
  · simp [PyData.showable, PyData.showableAll]; omega
  have h := PyData.shown_le 13 (by omega) (.list [.tuple [.int p, .int q, .int k], .none]) (by
    have h1 := PyData.shown_int_le hp
    have h2 := PyData.shown_int_le hq
    have h3 := PyData.shown_int_le hk
    simp [PyData.leavesShort, PyData.leavesShortAll, h1, h2, h3])
  have hw : (PyData.list [.tuple [.int p, .int q, .int k], .none]).weight ≤ 1000 := by
    simp [PyData.weight, PyData.weightAll]
    split <;> split <;> split <;> omega
  exact Nat.le_trans h (sz (by omega))
/-- what is asked of one form -/
theorem s_one {hs : List D} (h : HandOk hs) {p q k : Int} (hf : Nf p q k) (p1 : 1 ≤ p) (q3 : 3 * q ≤ 10000) : ∃ (a b a2 b2 : Int) (h1 h2 : List D),
    m_law_are_distances_right hs [.tuple [.int p, .int q, .int k]] = some (.bool true, h1) ∧
    (q ≤ 500 → m_law_is_round_right [.tuple [.int p, .int q, .int k]] = some (.bool true)) ∧
    m_rule_of [.tuple [.int p, .int q, .int k]] = some (ru p q a b) ∧ m_normal [ru p q a b] = some (.tuple [.int p, .int q, .int k]) ∧
    m_law_rule h1 [.tuple [.int p, .int q, .int k]] = some (ru p q a2 b2, h2) ∧ m_parts_at [ru p q a b, ru p q a2 b2] = some .none ∧
    m_law_is [.list [.tuple [.int p, .int q, .int k], .none], .list [.tuple [.int p, .int q, .int k], .none]] = some (.bool true) ∧ HandOk h2 := by
  obtain ⟨h1, e1, o1⟩ := s_dist h hf p1 q3
  obtain ⟨a, b, e2, R, hab, _⟩ := s_rule_of hf (by omega)
  obtain ⟨a2, b2, h2, e3, R2, hT, k2, o2⟩ := s_law_rule' o1 hf q3
  have hb0 : 0 < b := by have := R.a0; have := R.ab; omega
  have hb2 : 0 < b2 := by have := R2.a0; have := R2.ab; omega
  have k1 : q * a / b = k := by rw [Int.mul_comm, hab]; exact Int.mul_ediv_cancel _ (by omega)
  have e4 := s_normal R k1
  have e5 := s_parts_same R R2 k1 k2
  obtain ⟨z, hz⟩ := reprF p q k (by have := hf.p0; have := hf.pq; have := hf.q2; omega) (by have := hf.q1; have := hf.q2; omega) (by have := hf.k0; have := hf.kq; have := hf.q2; omega)
  exact ⟨a, b, a2, b2, h1, h2, e1, fun hq => s_round hf p1 hq, e2, e4, e3, e5, s_law_is hz, o2⟩
theorem s_law (ns : List Int) (hns : ns.length ≤ 63) : m_law [.list (ns.map PyData.int)] = some (.bool true) := by
  obtain ⟨hs0, e0, o0⟩ := s_law_hand ns hns
  have g5 : Int.gcd 2 5 = 1 := by decide
  have d1 := s_law_derived (p := 2) (q := 5) (k := 2) (by omega) (by omega) (by omega) g5 (by omega) (by omega)
  replace d1 : m_law_derived [.tuple [.int 2, .int 5, .int 2]] = some (.tuple [.tuple [.int 1, .int 2, .int 0], .int 2]) := d1
  have z1 : dNe (.tuple [.tuple [.int 1, .int 2, .int 0], .int 2]) (.tuple [.tuple [.int 1, .int 2, .int 0], .int 2]) = some (.bool false) := dNe_same (shaped_tup _ (by simp [PyData.canLayAll0, PyData.canLay0]) (by simp [PyData.depthAll, PyData.depth])) trivial
  have hR : Ru 2 5 2 5 := ⟨by omega, by omega, by omega, by omega, by decide, by omega, by omega, by omega, by decide⟩
  have c1 := comp_rgM (e0 := [.val (.list (ns.map PyData.int)), .own hs0, .un, .un, .un, .un]) (g := gNm 5) (t := cYes) (vs := [5]) (me := (eCall m_nth_duty (aCons (eTup (aCons (eTup (aCons (eC (.int 2)) (aCons (eC (.int 5)) aNil))) (aCons (eTup (aCons (eC (.int 2)) (aCons (eC (.int 5)) aNil))) aNil))) (aCons (eNm 5) aNil)))) (f := fun j : Nat => PyData.int (-((-((((j : Int) + 1) * 5 - 2) * 5)) / (2 * 5)) - 1)) 4 fun j hj => by
    have h4 := s_nth_duty j hR (by omega) (by omega) (by omega)
    unfold ru fr at h4
    refine ⟨[.val (.list (ns.map PyData.int)), .own hs0, .un, .un, .un, .val (.int j)], rfl, rfl, ?_, rfl⟩
    clear d1 z1
    walk_at "ev"
  have hv : ((List.range 4).map fun j : Nat => PyData.int (-((-((((j : Int) + 1) * 5 - 2) * 5)) / (2 * 5)) - 1)) = [.int 1, .int 3, .int 6, .int 8] := by rfl
  rw [hv] at c1
  replace c1 : compL (gNm 5) cYes _ [5] (rgD 0 (4 : Int).toNat) _ = _ := c1
  have g4 : small62 4 = true := by decide
  have q1 : q_law_1 [.val (.list (ns.map PyData.int)), .own hs0, .un, .un, .un, .un] = some ([.int 1, .int 3, .int 6, .int 8], [.val (.list (ns.map PyData.int)), .own hs0, .un, .un, .un, .un]) := by
    clear d1 z1
    unfold q_law_1
    walk_at "ev"
  have z2 : dNe (.list [.int 1, .int 3, .int 6, .int 8]) (.list [.int 1, .int 3, .int 6, .int 8]) = some (.bool false) := dNe_same (shaped_ints [1, 3, 6, 8]) trivial
  have body : ∀ (hs : List D) (s3 s4 : Sl) (i : D), HandOk hs → ((s3 = .un ∧ s4 = .un) ∨ ∃ v3 v4, s3 = .val v3 ∧ s4 = .val v4) → ∃ hs' v3 v4, HandOk hs' ∧
      b_law_1 [.val (.list (ns.map PyData.int)), .own hs, .val i, s3, s4, .un] = some (.nx [.val (.list (ns.map PyData.int)), .own hs', .val i, .val v3, .val v4, .un]) := by
    intro hs s3 s4 i oh hsl
    obtain ⟨dd, ha, ea, dm, oa⟩ := s_some oh [.int 60, .int 500, .int 3000] (by simp) (by simp)
    have hd : ∃ n, dd = .int n ∧ 30 ≤ n ∧ n ≤ 3000 := by
      simp at dm
      rcases dm with rfl | rfl | rfl
      · exact ⟨_, rfl, by omega, by omega⟩
      · exact ⟨_, rfl, by omega, by omega⟩
      · exact ⟨_, rfl, by omega, by omega⟩
    obtain ⟨M, rfl, M0, M1⟩ := hd
    clear dm
    obtain ⟨p, q, k, hb, eb, hf, q6, ob⟩ := s_form oa M M0 (by omega)
    by_cases hp : p = 0
    · have hp1 : decide (p = 0) = true := decide_eq_true hp
      have hq : q = 1 := by
        have := hf.pg
        rw [hp, Int.gcd_zero_left] at this
        have := hf.q1
        omega
      have hf2 : Nf 1 (q + 1) 0 := ⟨by omega, by omega, by omega, by omega, Int.gcd_one_left .., by omega, by omega⟩
      obtain ⟨a, b, a2, b2, h1, h2, x1, x2, x3, x4, x5, x6, x7, o2⟩ := s_one ob hf2 (by omega) (by omega)
      have x8 := x2 (by omega)
      have lt : decide (q + 1 < 501) = true := decide_eq_true (by omega)
      refine ⟨h2, .tuple [.int 1, .int (q + 1), .int 0], ru 1 (q + 1) a b, o2, ?_⟩
      clear hf hf2 oh oa ob o2 x2 hp hq d1 z1 z2 q1 c1 hv M0 M1 q6
      rcases hsl with ⟨rfl, rfl⟩ | ⟨v3, v4, rfl, rfl⟩
      · unfold b_law_1
        walk_at "ev"
      · unfold b_law_1
        walk_at "ev"
    · have hp1 : decide (p = 0) = false := decide_eq_false hp
      have p1 : 1 ≤ p := by have := hf.p0; omega
      obtain ⟨a, b, a2, b2, h1, h2, x1, x2, x3, x4, x5, x6, x7, o2⟩ := s_one ob hf p1 (by omega)
      by_cases hq : q < 501
      · have x8 := x2 (by omega)
        have lt : decide (q < 501) = true := decide_eq_true hq
        refine ⟨h2, .tuple [.int p, .int q, .int k], ru p q a b, o2, ?_⟩
        clear hf oh oa ob o2 x2 hp hq d1 z1 z2 q1 c1 hv M0 M1 q6 p1
        rcases hsl with ⟨rfl, rfl⟩ | ⟨v3, v4, rfl, rfl⟩
        · unfold b_law_1
          walk_at "ev"
        · unfold b_law_1
          walk_at "ev"
      · have lt : decide (q < 501) = false := decide_eq_false hq
        refine ⟨h2, .tuple [.int p, .int q, .int k], ru p q a b, o2, ?_⟩
        clear hf oh oa ob o2 x2 hp hq d1 z1 z2 q1 c1 hv M0 M1 q6 p1
        rcases hsl with ⟨rfl, rfl⟩ | ⟨v3, v4, rfl, rfl⟩
        · unfold b_law_1
          walk_at "ev"
        · unfold b_law_1
          walk_at "ev"
  obtain ⟨e', w1, hs1, o1, hw⟩ := for_of (g := gNm 2) (b := b_law_1) (fun i : Nat => PyData.int i) (fun _ e => ∃ hs, HandOk hs ∧ (e = [.val (.list (ns.map PyData.int)), .own hs, .un, .un, .un, .un] ∨ ∃ v2 v3 v4, e = [.val (.list (ns.map PyData.int)), .own hs, .val v2, .val v3, .val v4, .un])) (List.range 5) [] [.val (.list (ns.map PyData.int)), .own hs0, .un, .un, .un, .un] (fun pre i post e he => fun ⟨hs, oh, hh⟩ => by
    rcases hh with rfl | ⟨v2, v3, v4, rfl⟩
    · obtain ⟨hs', w3, w4, oh', eb⟩ := body hs .un .un (.int i) oh (.inl ⟨rfl, rfl⟩)
      exact ⟨_, _, rfl, .inl eb, hs', oh', .inr ⟨_, _, _, rfl⟩⟩
    · obtain ⟨hs', w3, w4, oh', eb⟩ := body hs (.val v3) (.val v4) (.int i) oh (.inr ⟨_, _, rfl, rfl⟩)
      exact ⟨_, _, rfl, .inl eb, hs', oh', .inr ⟨_, _, _, rfl⟩⟩) ⟨hs0, o0, .inl rfl⟩
  have w2 : w_law_1 [.val (.list (ns.map PyData.int)), .own hs0, .un, .un, .un, .un] = some (.nx e') := by
    have g5 : small62 5 = true := by decide
    rw [← rgD0] at w1
    replace w1 : forL (gNm 2) b_law_1 (rgD 0 (5 : Int).toNat) [.val (.list (ns.map PyData.int)), .own hs0, .un, .un, .un, .un] = _ := w1
    clear body d1 z1 z2 q1 c1 hv hw
    unfold w_law_1
    walk_at "ev"
  clear body c1 hv w1
  rcases hw with rfl | ⟨v2, v3, v4, rfl⟩
  · skip
    refine mD_ev rfl ?_
    show retO (t_law [.val (.list (ns.map PyData.int)), .un, .un, .un, .un, .un]) = _
    unfold t_law
    walk_at "ev"
  · skip
    refine mD_ev rfl ?_
    show retO (t_law [.val (.list (ns.map PyData.int)), .un, .un, .un, .un, .un]) = _
    unfold t_law
    walk_at "ev"
end W.S

set_option maxHeartbeats 4000000
/-! derivations of k24, printed by gen.py -/
namespace W
open PySem PySem.Spec PyProof.Rows L2 PL
def topS (i : Nat) : Stmt := PySem.Challenge.pw_evenduties_k24_whole_rules_derived_as_th.main.body.getD i (.Pass ⟨0, 0, 0, 0⟩)
abbrev s_is_integer : Stmt := topS 3
abbrev s_is_within : Stmt := topS 4
abbrev s_is_tuple_of : Stmt := topS 5
abbrev s_common : Stmt := topS 6
abbrev s_is_fraction : Stmt := topS 7
abbrev s_frac : Stmt := topS 8
abbrev s_less : Stmt := topS 9
abbrev s_is_signs : Stmt := topS 21
abbrev s_is_row : Stmt := topS 22
abbrev s_check_row : Stmt := topS 23
abbrev s_duties_of : Stmt := topS 24
abbrev s_round_gaps : Stmt := topS 28
abbrev s_check_duty : Stmt := topS 29
abbrev s_gaps_of : Stmt := topS 30
abbrev s_derived_of : Stmt := topS 31
abbrev s_derived : Stmt := topS 32
abbrev s_ladder_of : Stmt := topS 33
abbrev s_ladder : Stmt := topS 34
abbrev s_is_line : Stmt := topS 38
abbrev s_is_rule : Stmt := topS 39
abbrev s_check_rule : Stmt := topS 40
abbrev s_total_to : Stmt := topS 41
abbrev s_row_of : Stmt := topS 42
abbrev s_made : Stmt := topS 43
abbrev s_nth_duty : Stmt := topS 44
abbrev s_form_of : Stmt := topS 46
abbrev s_normal : Stmt := topS 47
abbrev s_made_of : Stmt := topS 48
abbrev s_rule_of : Stmt := topS 49
abbrev s_has_duty : Stmt := topS 50
abbrev s_first_parting : Stmt := topS 51
abbrev s_parts_at : Stmt := topS 52
abbrev s_law_hand : Stmt := topS 54
abbrev s_law_draw : Stmt := topS 55
abbrev s_law_some : Stmt := topS 56
abbrev s_law_divisor : Stmt := topS 57
abbrev s_law_fraction : Stmt := topS 58
abbrev s_law_made : Stmt := topS 59
abbrev s_law_is : Stmt := topS 60
abbrev s_law_form : Stmt := topS 61
abbrev s_law_rule : Stmt := topS 62
abbrev s_law_derived : Stmt := topS 63
abbrev s_law_are_distances_right : Stmt := topS 64
abbrev s_law_is_round_right : Stmt := topS 65
abbrev s_law : Stmt := topS 66
theorem nd_is_integer : (("is_integer" : Str) == ("__debug__" : Str)) = false := by decide +kernel
theorem nd_is_within : (("is_within" : Str) == ("__debug__" : Str)) = false := by decide +kernel
theorem nd_is_tuple_of : (("is_tuple_of" : Str) == ("__debug__" : Str)) = false := by decide +kernel
theorem nd_common : (("common" : Str) == ("__debug__" : Str)) = false := by decide +kernel
theorem nd_is_fraction : (("is_fraction" : Str) == ("__debug__" : Str)) = false := by decide +kernel
theorem nd_frac : (("frac" : Str) == ("__debug__" : Str)) = false := by decide +kernel
theorem nd_less : (("less" : Str) == ("__debug__" : Str)) = false := by decide +kernel
theorem nd_is_signs : (("is_signs" : Str) == ("__debug__" : Str)) = false := by decide +kernel
theorem nd_is_row : (("is_row" : Str) == ("__debug__" : Str)) = false := by decide +kernel
theorem nd_check_row : (("check_row" : Str) == ("__debug__" : Str)) = false := by decide +kernel
theorem nd_duties_of : (("duties_of" : Str) == ("__debug__" : Str)) = false := by decide +kernel
theorem nd_round_gaps : (("round_gaps" : Str) == ("__debug__" : Str)) = false := by decide +kernel
theorem nd_check_duty : (("check_duty" : Str) == ("__debug__" : Str)) = false := by decide +kernel
theorem nd_gaps_of : (("gaps_of" : Str) == ("__debug__" : Str)) = false := by decide +kernel
theorem nd_derived_of : (("derived_of" : Str) == ("__debug__" : Str)) = false := by decide +kernel
theorem nd_derived : (("derived" : Str) == ("__debug__" : Str)) = false := by decide +kernel
theorem nd_ladder_of : (("ladder_of" : Str) == ("__debug__" : Str)) = false := by decide +kernel
theorem nd_ladder : (("ladder" : Str) == ("__debug__" : Str)) = false := by decide +kernel
theorem nd_is_line : (("is_line" : Str) == ("__debug__" : Str)) = false := by decide +kernel
theorem nd_is_rule : (("is_rule" : Str) == ("__debug__" : Str)) = false := by decide +kernel
theorem nd_check_rule : (("check_rule" : Str) == ("__debug__" : Str)) = false := by decide +kernel
theorem nd_total_to : (("total_to" : Str) == ("__debug__" : Str)) = false := by decide +kernel
theorem nd_row_of : (("row_of" : Str) == ("__debug__" : Str)) = false := by decide +kernel
theorem nd_made : (("made" : Str) == ("__debug__" : Str)) = false := by decide +kernel
theorem nd_nth_duty : (("nth_duty" : Str) == ("__debug__" : Str)) = false := by decide +kernel
theorem nd_form_of : (("form_of" : Str) == ("__debug__" : Str)) = false := by decide +kernel
theorem nd_normal : (("normal" : Str) == ("__debug__" : Str)) = false := by decide +kernel
theorem nd_made_of : (("made_of" : Str) == ("__debug__" : Str)) = false := by decide +kernel
theorem nd_rule_of : (("rule_of" : Str) == ("__debug__" : Str)) = false := by decide +kernel
theorem nd_has_duty : (("has_duty" : Str) == ("__debug__" : Str)) = false := by decide +kernel
theorem nd_first_parting : (("first_parting" : Str) == ("__debug__" : Str)) = false := by decide +kernel
theorem nd_parts_at : (("parts_at" : Str) == ("__debug__" : Str)) = false := by decide +kernel
theorem nd__law_hand : (("_law_hand" : Str) == ("__debug__" : Str)) = false := by decide +kernel
theorem nd__law_draw : (("_law_draw" : Str) == ("__debug__" : Str)) = false := by decide +kernel
theorem nd__law_some : (("_law_some" : Str) == ("__debug__" : Str)) = false := by decide +kernel
theorem nd__law_divisor : (("_law_divisor" : Str) == ("__debug__" : Str)) = false := by decide +kernel
theorem nd__law_fraction : (("_law_fraction" : Str) == ("__debug__" : Str)) = false := by decide +kernel
theorem nd__law_made : (("_law_made" : Str) == ("__debug__" : Str)) = false := by decide +kernel
theorem nd__law_is : (("_law_is" : Str) == ("__debug__" : Str)) = false := by decide +kernel
theorem nd__law_form : (("_law_form" : Str) == ("__debug__" : Str)) = false := by decide +kernel
theorem nd__law_rule : (("_law_rule" : Str) == ("__debug__" : Str)) = false := by decide +kernel
theorem nd__law_derived : (("_law_derived" : Str) == ("__debug__" : Str)) = false := by decide +kernel
theorem nd__law_are_distances_right : (("_law_are_distances_right" : Str) == ("__debug__" : Str)) = false := by decide +kernel
theorem nd__law_is_round_right : (("_law_is_round_right" : Str) == ("__debug__" : Str)) = false := by decide +kernel
theorem nd_law : (("law" : Str) == ("__debug__" : Str)) = false := by decide +kernel
theorem nd_int : (("int" : Str) == ("__debug__" : Str)) = false := by decide +kernel
theorem nd_isinstance : (("isinstance" : Str) == ("__debug__" : Str)) = false := by decide +kernel
theorem nd_bool : (("bool" : Str) == ("__debug__" : Str)) = false := by decide +kernel
theorem nd_tuple : (("tuple" : Str) == ("__debug__" : Str)) = false := by decide +kernel
theorem nd_len : (("len" : Str) == ("__debug__" : Str)) = false := by decide +kernel
theorem nd_abs : (("abs" : Str) == ("__debug__" : Str)) = false := by decide +kernel
theorem nd_str : (("str" : Str) == ("__debug__" : Str)) = false := by decide +kernel
theorem nd_all : (("all" : Str) == ("__debug__" : Str)) = false := by decide +kernel
theorem nd_enumerate : (("enumerate" : Str) == ("__debug__" : Str)) = false := by decide +kernel
theorem nd_zip : (("zip" : Str) == ("__debug__" : Str)) = false := by decide +kernel
theorem nd_max : (("max" : Str) == ("__debug__" : Str)) = false := by decide +kernel
theorem nd_min : (("min" : Str) == ("__debug__" : Str)) = false := by decide +kernel
theorem nd_range : (("range" : Str) == ("__debug__" : Str)) = false := by decide +kernel
theorem nd_repr : (("repr" : Str) == ("__debug__" : Str)) = false := by decide +kernel
theorem nd_DUTY : (("DUTY" : Str) == ("__debug__" : Str)) = false := by decide +kernel
theorem nd_FREE : (("FREE" : Str) == ("__debug__" : Str)) = false := by decide +kernel
theorem nd_MOST_DAYS : (("MOST_DAYS" : Str) == ("__debug__" : Str)) = false := by decide +kernel
theorem nd_EVEN : (("EVEN" : Str) == ("__debug__" : Str)) = false := by decide +kernel
theorem nd_UNEVEN : (("UNEVEN" : Str) == ("__debug__" : Str)) = false := by decide +kernel
theorem nd_ZERO : (("ZERO" : Str) == ("__debug__" : Str)) = false := by decide +kernel
theorem nd_ONE : (("ONE" : Str) == ("__debug__" : Str)) = false := by decide +kernel
theorem nd_MOST_BOTTOM : (("MOST_BOTTOM" : Str) == ("__debug__" : Str)) = false := by decide +kernel
theorem nd_MOST_DAY : (("MOST_DAY" : Str) == ("__debug__" : Str)) = false := by decide +kernel
theorem bt_int : bootBuiltins ("int" : Str) = some (.type "int") := by first | exact PyProof.Rows.boot_int | exact PySem.boot_int | exact boot_int | decide +kernel | kernel_rfl
theorem bt_isinstance : bootBuiltins ("isinstance" : Str) = some (.builtin "isinstance") := by first | exact PyProof.Rows.boot_isinstance | exact PySem.boot_isinstance | exact boot_isinstance | decide +kernel | kernel_rfl
theorem bt_bool : bootBuiltins ("bool" : Str) = some (.type "bool") := by first | exact PyProof.Rows.boot_bool | exact PySem.boot_bool | exact boot_bool | decide +kernel | kernel_rfl
theorem bt_tuple : bootBuiltins ("tuple" : Str) = some (.type "tuple") := by first | exact PyProof.Rows.boot_tuple | exact PySem.boot_tuple | exact boot_tuple | decide +kernel | kernel_rfl
theorem bt_len : bootBuiltins ("len" : Str) = some (.builtin "len") := by first | exact PyProof.Rows.boot_len | exact PySem.boot_len | exact boot_len | decide +kernel | kernel_rfl
theorem bt_abs : bootBuiltins ("abs" : Str) = some (.builtin "abs") := by first | exact PyProof.Rows.boot_abs | exact PySem.boot_abs | exact boot_abs | decide +kernel | kernel_rfl
theorem bt_str : bootBuiltins ("str" : Str) = some (.type "str") := by first | exact PyProof.Rows.boot_str | exact PySem.boot_str | exact boot_str | decide +kernel | kernel_rfl
theorem bt_all : bootBuiltins ("all" : Str) = some (.builtin "all") := by first | exact PyProof.Rows.boot_all | exact PySem.boot_all | exact boot_all | decide +kernel | kernel_rfl
theorem bt_enumerate : bootBuiltins ("enumerate" : Str) = some (.type "enumerate") := by first | exact PyProof.Rows.boot_enumerate | exact PySem.boot_enumerate | exact boot_enumerate | decide +kernel | kernel_rfl
theorem bt_zip : bootBuiltins ("zip" : Str) = some (.type "zip") := by first | exact PyProof.Rows.boot_zip | exact PySem.boot_zip | exact boot_zip | decide +kernel | kernel_rfl
theorem bt_max : bootBuiltins ("max" : Str) = some (.builtin "max") := by first | exact PyProof.Rows.boot_max | exact PySem.boot_max | exact boot_max | decide +kernel | kernel_rfl
theorem bt_min : bootBuiltins ("min" : Str) = some (.builtin "min") := by first | exact PyProof.Rows.boot_min | exact PySem.boot_min | exact boot_min | decide +kernel | kernel_rfl
theorem bt_range : bootBuiltins ("range" : Str) = some (.type "range") := by first | exact PyProof.Rows.boot_range | exact PySem.boot_range | exact boot_range | decide +kernel | kernel_rfl
theorem bt_repr : bootBuiltins ("repr" : Str) = some (.builtin "repr") := by first | exact PyProof.Rows.boot_repr | exact PySem.boot_repr | exact boot_repr | decide +kernel | kernel_rfl
/-- what stands behind the top -/
structure Top (K : PySem.W.Frag) (mg : Str → Option Value) : Prop where
  d_is_integer : ∃ f fd, mg ("is_integer" : Str) = some (.ref f) ∧ FunD K "is_integer" "is_integer" (defArgs s_is_integer) (defBody s_is_integer) (defScope s_is_integer) [] [] f fd
  d_is_within : ∃ f fd, mg ("is_within" : Str) = some (.ref f) ∧ FunD K "is_within" "is_within" (defArgs s_is_within) (defBody s_is_within) (defScope s_is_within) [] [] f fd
  d_is_tuple_of : ∃ f fd, mg ("is_tuple_of" : Str) = some (.ref f) ∧ FunD K "is_tuple_of" "is_tuple_of" (defArgs s_is_tuple_of) (defBody s_is_tuple_of) (defScope s_is_tuple_of) [] [] f fd
  d_common : ∃ f fd, mg ("common" : Str) = some (.ref f) ∧ FunD K "common" "common" (defArgs s_common) (defBody s_common) (defScope s_common) [] [] f fd
  d_is_fraction : ∃ f fd, mg ("is_fraction" : Str) = some (.ref f) ∧ FunD K "is_fraction" "is_fraction" (defArgs s_is_fraction) (defBody s_is_fraction) (defScope s_is_fraction) [] [] f fd
  d_frac : ∃ f fd, mg ("frac" : Str) = some (.ref f) ∧ FunD K "frac" "frac" (defArgs s_frac) (defBody s_frac) (defScope s_frac) [] [] f fd
  d_less : ∃ f fd, mg ("less" : Str) = some (.ref f) ∧ FunD K "less" "less" (defArgs s_less) (defBody s_less) (defScope s_less) [] [] f fd
  d_is_signs : ∃ f fd, mg ("is_signs" : Str) = some (.ref f) ∧ FunD K "is_signs" "is_signs" (defArgs s_is_signs) (defBody s_is_signs) (defScope s_is_signs) [] [] f fd
  d_is_row : ∃ f fd, mg ("is_row" : Str) = some (.ref f) ∧ FunD K "is_row" "is_row" (defArgs s_is_row) (defBody s_is_row) (defScope s_is_row) [] [] f fd
  d_check_row : ∃ f fd, mg ("check_row" : Str) = some (.ref f) ∧ FunD K "check_row" "check_row" (defArgs s_check_row) (defBody s_check_row) (defScope s_check_row) [] [] f fd
  d_duties_of : ∃ f fd, mg ("duties_of" : Str) = some (.ref f) ∧ FunD K "duties_of" "duties_of" (defArgs s_duties_of) (defBody s_duties_of) (defScope s_duties_of) [] [] f fd
  d_round_gaps : ∃ f fd, mg ("round_gaps" : Str) = some (.ref f) ∧ FunD K "round_gaps" "round_gaps" (defArgs s_round_gaps) (defBody s_round_gaps) (defScope s_round_gaps) [] [] f fd
  d_check_duty : ∃ f fd, mg ("check_duty" : Str) = some (.ref f) ∧ FunD K "check_duty" "check_duty" (defArgs s_check_duty) (defBody s_check_duty) (defScope s_check_duty) [] [] f fd
  d_gaps_of : ∃ f fd, mg ("gaps_of" : Str) = some (.ref f) ∧ FunD K "gaps_of" "gaps_of" (defArgs s_gaps_of) (defBody s_gaps_of) (defScope s_gaps_of) [] [] f fd
  d_derived_of : ∃ f fd, mg ("derived_of" : Str) = some (.ref f) ∧ FunD K "derived_of" "derived_of" (defArgs s_derived_of) (defBody s_derived_of) (defScope s_derived_of) [] [] f fd
  d_derived : ∃ f fd, mg ("derived" : Str) = some (.ref f) ∧ FunD K "derived" "derived" (defArgs s_derived) (defBody s_derived) (defScope s_derived) [] [] f fd
  d_ladder_of : ∃ f fd, mg ("ladder_of" : Str) = some (.ref f) ∧ FunD K "ladder_of" "ladder_of" (defArgs s_ladder_of) (defBody s_ladder_of) (defScope s_ladder_of) [] [] f fd
  d_ladder : ∃ f fd, mg ("ladder" : Str) = some (.ref f) ∧ FunD K "ladder" "ladder" (defArgs s_ladder) (defBody s_ladder) (defScope s_ladder) [] [] f fd
  d_is_line : ∃ f fd, mg ("is_line" : Str) = some (.ref f) ∧ FunD K "is_line" "is_line" (defArgs s_is_line) (defBody s_is_line) (defScope s_is_line) [] [] f fd
  d_is_rule : ∃ f fd, mg ("is_rule" : Str) = some (.ref f) ∧ FunD K "is_rule" "is_rule" (defArgs s_is_rule) (defBody s_is_rule) (defScope s_is_rule) [] [] f fd
  d_check_rule : ∃ f fd, mg ("check_rule" : Str) = some (.ref f) ∧ FunD K "check_rule" "check_rule" (defArgs s_check_rule) (defBody s_check_rule) (defScope s_check_rule) [] [] f fd
  d_total_to : ∃ f fd, mg ("total_to" : Str) = some (.ref f) ∧ FunD K "total_to" "total_to" (defArgs s_total_to) (defBody s_total_to) (defScope s_total_to) [] [] f fd
  d_row_of : ∃ f fd, mg ("row_of" : Str) = some (.ref f) ∧ FunD K "row_of" "row_of" (defArgs s_row_of) (defBody s_row_of) (defScope s_row_of) [] [] f fd
  d_made : ∃ f fd, mg ("made" : Str) = some (.ref f) ∧ FunD K "made" "made" (defArgs s_made) (defBody s_made) (defScope s_made) [] [] f fd
  d_nth_duty : ∃ f fd, mg ("nth_duty" : Str) = some (.ref f) ∧ FunD K "nth_duty" "nth_duty" (defArgs s_nth_duty) (defBody s_nth_duty) (defScope s_nth_duty) [] [] f fd
  d_form_of : ∃ f fd, mg ("form_of" : Str) = some (.ref f) ∧ FunD K "form_of" "form_of" (defArgs s_form_of) (defBody s_form_of) (defScope s_form_of) [] [] f fd
  d_normal : ∃ f fd, mg ("normal" : Str) = some (.ref f) ∧ FunD K "normal" "normal" (defArgs s_normal) (defBody s_normal) (defScope s_normal) [] [] f fd
  d_made_of : ∃ f fd, mg ("made_of" : Str) = some (.ref f) ∧ FunD K "made_of" "made_of" (defArgs s_made_of) (defBody s_made_of) (defScope s_made_of) [] [] f fd
  d_rule_of : ∃ f fd, mg ("rule_of" : Str) = some (.ref f) ∧ FunD K "rule_of" "rule_of" (defArgs s_rule_of) (defBody s_rule_of) (defScope s_rule_of) [] [] f fd
  d_has_duty : ∃ f fd, mg ("has_duty" : Str) = some (.ref f) ∧ FunD K "has_duty" "has_duty" (defArgs s_has_duty) (defBody s_has_duty) (defScope s_has_duty) [] [] f fd
  d_first_parting : ∃ f fd, mg ("first_parting" : Str) = some (.ref f) ∧ FunD K "first_parting" "first_parting" (defArgs s_first_parting) (defBody s_first_parting) (defScope s_first_parting) [] [] f fd
  d_parts_at : ∃ f fd, mg ("parts_at" : Str) = some (.ref f) ∧ FunD K "parts_at" "parts_at" (defArgs s_parts_at) (defBody s_parts_at) (defScope s_parts_at) [] [] f fd
  d_law_hand : ∃ f fd, mg ("_law_hand" : Str) = some (.ref f) ∧ FunD K "_law_hand" "_law_hand" (defArgs s_law_hand) (defBody s_law_hand) (defScope s_law_hand) [] [] f fd
  d_law_draw : ∃ f fd, mg ("_law_draw" : Str) = some (.ref f) ∧ FunD K "_law_draw" "_law_draw" (defArgs s_law_draw) (defBody s_law_draw) (defScope s_law_draw) [] [] f fd
  d_law_some : ∃ f fd, mg ("_law_some" : Str) = some (.ref f) ∧ FunD K "_law_some" "_law_some" (defArgs s_law_some) (defBody s_law_some) (defScope s_law_some) [] [] f fd
  d_law_divisor : ∃ f fd, mg ("_law_divisor" : Str) = some (.ref f) ∧ FunD K "_law_divisor" "_law_divisor" (defArgs s_law_divisor) (defBody s_law_divisor) (defScope s_law_divisor) [] [] f fd
  d_law_fraction : ∃ f fd, mg ("_law_fraction" : Str) = some (.ref f) ∧ FunD K "_law_fraction" "_law_fraction" (defArgs s_law_fraction) (defBody s_law_fraction) (defScope s_law_fraction) [] [] f fd
  d_law_made : ∃ f fd, mg ("_law_made" : Str) = some (.ref f) ∧ FunD K "_law_made" "_law_made" (defArgs s_law_made) (defBody s_law_made) (defScope s_law_made) [] [] f fd
  d_law_is : ∃ f fd, mg ("_law_is" : Str) = some (.ref f) ∧ FunD K "_law_is" "_law_is" (defArgs s_law_is) (defBody s_law_is) (defScope s_law_is) [] [] f fd
  d_law_form : ∃ f fd, mg ("_law_form" : Str) = some (.ref f) ∧ FunD K "_law_form" "_law_form" (defArgs s_law_form) (defBody s_law_form) (defScope s_law_form) [] [] f fd
  d_law_rule : ∃ f fd, mg ("_law_rule" : Str) = some (.ref f) ∧ FunD K "_law_rule" "_law_rule" (defArgs s_law_rule) (defBody s_law_rule) (defScope s_law_rule) [] [] f fd
  d_law_derived : ∃ f fd, mg ("_law_derived" : Str) = some (.ref f) ∧ FunD K "_law_derived" "_law_derived" (defArgs s_law_derived) (defBody s_law_derived) (defScope s_law_derived) [] [] f fd
  d_law_are_distances_right : ∃ f fd, mg ("_law_are_distances_right" : Str) = some (.ref f) ∧ FunD K "_law_are_distances_right" "_law_are_distances_right" (defArgs s_law_are_distances_right) (defBody s_law_are_distances_right) (defScope s_law_are_distances_right) [] [] f fd
  d_law_is_round_right : ∃ f fd, mg ("_law_is_round_right" : Str) = some (.ref f) ∧ FunD K "_law_is_round_right" "_law_is_round_right" (defArgs s_law_is_round_right) (defBody s_law_is_round_right) (defScope s_law_is_round_right) [] [] f fd
  d_law : ∃ f fd, mg ("law" : Str) = some (.ref f) ∧ FunD K "law" "law" (defArgs s_law) (defBody s_law) (defScope s_law) [] [] f fd
  z_int : mg ("int" : Str) = none
  z_isinstance : mg ("isinstance" : Str) = none
  z_bool : mg ("bool" : Str) = none
  z_tuple : mg ("tuple" : Str) = none
  z_len : mg ("len" : Str) = none
  z_abs : mg ("abs" : Str) = none
  z_str : mg ("str" : Str) = none
  z_all : mg ("all" : Str) = none
  z_enumerate : mg ("enumerate" : Str) = none
  z_zip : mg ("zip" : Str) = none
  z_max : mg ("max" : Str) = none
  z_min : mg ("min" : Str) = none
  z_range : mg ("range" : Str) = none
  z_repr : mg ("repr" : Str) = none
  k_DUTY : ∃ t, mg ("DUTY" : Str) = some (.str "1" t)
  k_FREE : ∃ t, mg ("FREE" : Str) = some (.str "0" t)
  k_MOST_DAYS : ∃ t, mg ("MOST_DAYS" : Str) = some (.int 500 t)
  k_EVEN : ∃ t, mg ("EVEN" : Str) = some (.str "even" t)
  k_UNEVEN : ∃ t, mg ("UNEVEN" : Str) = some (.str "uneven" t)
  k_ZERO : ∃ a, mg ("ZERO" : Str) = some (.ref a) ∧ ∀ G, Dp K G (.ref a) (.tuple [(.int 0), (.int 1)])
  k_ONE : ∃ a, mg ("ONE" : Str) = some (.ref a) ∧ ∀ G, Dp K G (.ref a) (.tuple [(.int 1), (.int 1)])
  k_MOST_BOTTOM : ∃ t, mg ("MOST_BOTTOM" : Str) = some (.int 10000 t)
  k_MOST_DAY : ∃ t, mg ("MOST_DAY" : Str) = some (.int 1000000000000 t)
section
variable {P : Program} {w : World} {K : PySem.W.Frag} {mg : Str → Option Value} {base : Heap}
abbrev N_is_integer : List Str := ["thing"]
theorem S_is_integer : FnScope N_is_integer ["thing"] (defScope s_is_integer) := ⟨rfl, rfl, rfl, by decide +kernel, rfl, by decide +kernel, by decide +kernel⟩
theorem n_is_integer_0 : NmOk N_is_integer (defScope s_is_integer) 0 "thing" := nmB_ok (by decide +kernel)
theorem g_is_integer_isinstance : (defScope s_is_integer).names.lookup ("isinstance" : Str) = some .globalImplicit := by decide +kernel
theorem g_is_integer_int : (defScope s_is_integer).names.lookup ("int" : Str) = some .globalImplicit := by decide +kernel
theorem g_is_integer_bool : (defScope s_is_integer).names.lookup ("bool" : Str) = some .globalImplicit := by decide +kernel
def Ok_is_integer (P : Program) (w : World) (K : PySem.W.Frag) (mg : Str → Option Value) (base : Heap) : Prop := ∃ f fd, mg ("is_integer" : Str) = some (.ref f) ∧ PySem.W.keepIn K (.ref f) = true ∧ Binds K fd ["thing"] [] ∧ FnG P w K mg base 1 f fd ["thing"] (spD K 1 m_is_integer)
theorem ok_is_integer (T : Top K mg) : Ok_is_integer P w K mg base := by
  obtain ⟨f, fd, hq, F⟩ := T.d_is_integer
  have z_int := T.z_int
  have z_isinstance := T.z_isinstance
  have z_bool := T.z_bool
  refine ⟨f, fd, hq, F.kp, F.bindsN (fun _ _ _ _ _ _ us hl => match us, hl with | [_], _ => rfl), ?_⟩
  refine fn_D F S_is_integer fun cdv A outer s H hr hG => ?_
  exact (db_one (ds_ret (de_and (de_isi g_is_integer_isinstance z_isinstance g_is_integer_int z_int bt_int bt_isinstance (by decide) nd_int (d_nm n_is_integer_0)) (de_one (de_not (de_isi g_is_integer_isinstance z_isinstance g_is_integer_bool z_bool bt_bool bt_isinstance (by decide) nd_bool (d_nm n_is_integer_0)))))))
abbrev N_is_within : List Str := ["thing", "low", "high"]
theorem S_is_within : FnScope N_is_within ["thing", "low", "high"] (defScope s_is_within) := ⟨rfl, rfl, rfl, by decide +kernel, rfl, by decide +kernel, by decide +kernel⟩
theorem n_is_within_0 : NmOk N_is_within (defScope s_is_within) 0 "thing" := nmB_ok (by decide +kernel)
theorem g_is_within_is_integer : (defScope s_is_within).names.lookup ("is_integer" : Str) = some .globalImplicit := by decide +kernel
theorem n_is_within_1 : NmOk N_is_within (defScope s_is_within) 1 "low" := nmB_ok (by decide +kernel)
theorem n_is_within_2 : NmOk N_is_within (defScope s_is_within) 2 "high" := nmB_ok (by decide +kernel)
def Ok_is_within (P : Program) (w : World) (K : PySem.W.Frag) (mg : Str → Option Value) (base : Heap) : Prop := ∃ f fd, mg ("is_within" : Str) = some (.ref f) ∧ PySem.W.keepIn K (.ref f) = true ∧ Binds K fd ["thing", "low", "high"] [] ∧ FnG P w K mg base 2 f fd ["thing", "low", "high"] (spD K 3 m_is_within)
theorem ok_is_within (T : Top K mg) (h_is_integer : Ok_is_integer P w K mg base) : Ok_is_within P w K mg base := by
  obtain ⟨f, fd, hq, F⟩ := T.d_is_within
  obtain ⟨f_is_integer, fd_is_integer, q_is_integer, K_is_integer, b_is_integer, G_is_integer⟩ := h_is_integer
  refine ⟨f, fd, hq, F.kp, F.bindsN (fun _ _ _ _ _ _ us hl => match us, hl with | [_, _, _], _ => rfl), ?_⟩
  refine fn_D F S_is_within fun cdv A outer s H hr hG => ?_
  exact (db_one (ds_ret (de_and (de_call G_is_integer (hr.mono (by decide)) hG g_is_within_is_integer q_is_integer K_is_integer b_is_integer (da_cons (d_nm n_is_within_0) da_nil) (lenC lenN) (nd_is_integer)) (de_one (de_chain op_le' op_le' (d_nm n_is_within_1) (d_nm n_is_within_0) (d_nm n_is_within_2) (by with_unfolding_all rfl))))))
abbrev N_is_tuple_of : List Str := ["thing", "many"]
theorem S_is_tuple_of : FnScope N_is_tuple_of ["thing", "many"] (defScope s_is_tuple_of) := ⟨rfl, rfl, rfl, by decide +kernel, rfl, by decide +kernel, by decide +kernel⟩
theorem n_is_tuple_of_0 : NmOk N_is_tuple_of (defScope s_is_tuple_of) 0 "thing" := nmB_ok (by decide +kernel)
theorem g_is_tuple_of_isinstance : (defScope s_is_tuple_of).names.lookup ("isinstance" : Str) = some .globalImplicit := by decide +kernel
theorem g_is_tuple_of_tuple : (defScope s_is_tuple_of).names.lookup ("tuple" : Str) = some .globalImplicit := by decide +kernel
theorem g_is_tuple_of_len : (defScope s_is_tuple_of).names.lookup ("len" : Str) = some .globalImplicit := by decide +kernel
theorem n_is_tuple_of_1 : NmOk N_is_tuple_of (defScope s_is_tuple_of) 1 "many" := nmB_ok (by decide +kernel)
def Ok_is_tuple_of (P : Program) (w : World) (K : PySem.W.Frag) (mg : Str → Option Value) (base : Heap) : Prop := ∃ f fd, mg ("is_tuple_of" : Str) = some (.ref f) ∧ PySem.W.keepIn K (.ref f) = true ∧ Binds K fd ["thing", "many"] [] ∧ FnG P w K mg base 1 f fd ["thing", "many"] (spD K 2 m_is_tuple_of)
theorem ok_is_tuple_of (T : Top K mg) : Ok_is_tuple_of P w K mg base := by
  obtain ⟨f, fd, hq, F⟩ := T.d_is_tuple_of
  have z_tuple := T.z_tuple
  have z_isinstance := T.z_isinstance
  have z_len := T.z_len
  refine ⟨f, fd, hq, F.kp, F.bindsN (fun _ _ _ _ _ _ us hl => match us, hl with | [_, _], _ => rfl), ?_⟩
  refine fn_D F S_is_tuple_of fun cdv A outer s H hr hG => ?_
  exact (db_one (ds_ret (de_and (de_isi g_is_tuple_of_isinstance z_isinstance g_is_tuple_of_tuple z_tuple bt_tuple bt_isinstance (by decide) nd_tuple (d_nm n_is_tuple_of_0)) (de_one (de_cmp (op_eq' (hu64 hr)) (de_callB call_len' g_is_tuple_of_len z_len bt_len (da_cons (d_nm n_is_tuple_of_0) da_nil)) (d_nm n_is_tuple_of_1) (nomark _))))))
abbrev N_common : List Str := ["one", "other"]
theorem S_common : FnScope N_common ["one", "other"] (defScope s_common) := ⟨rfl, rfl, rfl, by decide +kernel, rfl, by decide +kernel, by decide +kernel⟩
theorem n_common_0 : NmOk N_common (defScope s_common) 0 "one" := nmB_ok (by decide +kernel)
theorem n_common_1 : NmOk N_common (defScope s_common) 1 "other" := nmB_ok (by decide +kernel)
theorem o_common_0 : (defScope s_common).names.lookup ("one" : Str) = some .local := by decide +kernel
theorem o_common_1 : (defScope s_common).names.lookup ("other" : Str) = some .local := by decide +kernel
theorem l_common_0 : LcOk N_common (defScope s_common) 0 "one" := lcB_ok (by decide +kernel)
theorem l_common_1 : LcOk N_common (defScope s_common) 1 "other" := lcB_ok (by decide +kernel)
theorem g_common_abs : (defScope s_common).names.lookup ("abs" : Str) = some .globalImplicit := by decide +kernel
def Ok_common (P : Program) (w : World) (K : PySem.W.Frag) (mg : Str → Option Value) (base : Heap) : Prop := ∃ f fd, mg ("common" : Str) = some (.ref f) ∧ PySem.W.keepIn K (.ref f) = true ∧ Binds K fd ["one", "other"] [] ∧ FnG P w K mg base 1 f fd ["one", "other"] (spD K 2 m_common)
theorem ok_common (T : Top K mg) : Ok_common P w K mg base := by
  obtain ⟨f, fd, hq, F⟩ := T.d_common
  have z_abs := T.z_abs
  refine ⟨f, fd, hq, F.kp, F.bindsN (fun _ _ _ _ _ _ us hl => match us, hl with | [_, _], _ => rfl), ?_⟩
  refine fn_D F S_common fun cdv A outer s H hr hG => ?_
  exact (db_cons (ds_par 0 1 rfl S_common.nd l_common_0.hN l_common_1.hN (by decide) o_common_0 o_common_1 (da_cons (de_callB call_abs' g_common_abs z_abs bt_abs (da_cons (d_nm n_common_0) da_nil)) (da_cons (de_callB call_abs' g_common_abs z_abs bt_abs (da_cons (d_nm n_common_1) da_nil)) da_nil)) (by rfl))
    (db_cons (ds_while PassesOwn.never (dt_cmp op_gt' (d_nm n_common_1) de_int (nomark _)) (db_one (ds_par 0 1 rfl S_common.nd l_common_0.hN l_common_1.hN (by decide) o_common_0 o_common_1 (da_cons (d_nm n_common_1) (da_cons (de_op op_mod' (d_nm n_common_0) (d_nm n_common_1)) da_nil)) (by rfl))))
    (db_one (ds_ret (d_nm n_common_0)))))
abbrev N_is_fraction : List Str := ["thing"]
theorem S_is_fraction : FnScope N_is_fraction ["thing"] (defScope s_is_fraction) := ⟨rfl, rfl, rfl, by decide +kernel, rfl, by decide +kernel, by decide +kernel⟩
theorem n_is_fraction_0 : NmOk N_is_fraction (defScope s_is_fraction) 0 "thing" := nmB_ok (by decide +kernel)
theorem g_is_fraction_common : (defScope s_is_fraction).names.lookup ("common" : Str) = some .globalImplicit := by decide +kernel
theorem g_is_fraction_is_tuple_of : (defScope s_is_fraction).names.lookup ("is_tuple_of" : Str) = some .globalImplicit := by decide +kernel
theorem g_is_fraction_is_integer : (defScope s_is_fraction).names.lookup ("is_integer" : Str) = some .globalImplicit := by decide +kernel
def Ok_is_fraction (P : Program) (w : World) (K : PySem.W.Frag) (mg : Str → Option Value) (base : Heap) : Prop := ∃ f fd, mg ("is_fraction" : Str) = some (.ref f) ∧ PySem.W.keepIn K (.ref f) = true ∧ Binds K fd ["thing"] [] ∧ FnG P w K mg base 2 f fd ["thing"] (spD K 1 m_is_fraction)
theorem ok_is_fraction (T : Top K mg) (h_common : Ok_common P w K mg base) (h_is_tuple_of : Ok_is_tuple_of P w K mg base) (h_is_integer : Ok_is_integer P w K mg base) : Ok_is_fraction P w K mg base := by
  obtain ⟨f, fd, hq, F⟩ := T.d_is_fraction
  obtain ⟨f_common, fd_common, q_common, K_common, b_common, G_common⟩ := h_common
  obtain ⟨f_is_tuple_of, fd_is_tuple_of, q_is_tuple_of, K_is_tuple_of, b_is_tuple_of, G_is_tuple_of⟩ := h_is_tuple_of
  obtain ⟨f_is_integer, fd_is_integer, q_is_integer, K_is_integer, b_is_integer, G_is_integer⟩ := h_is_integer
  refine ⟨f, fd, hq, F.kp, F.bindsN (fun _ _ _ _ _ _ us hl => match us, hl with | [_], _ => rfl), ?_⟩
  refine fn_D F S_is_fraction fun cdv A outer s H hr hG => ?_
  exact (db_cons (ds_if (dt_w (dw_or (dt_not (dt_val (de_call G_is_tuple_of (hr.mono (by decide)) hG g_is_fraction_is_tuple_of q_is_tuple_of K_is_tuple_of b_is_tuple_of (da_cons (d_nm n_is_fraction_0) (da_cons de_int da_nil)) (lenC (lenC lenN)) (nd_is_tuple_of)))) (dw_or (dt_not (dt_val (de_call G_is_integer (hr.mono (by decide)) hG g_is_fraction_is_integer q_is_integer K_is_integer b_is_integer (da_cons (de_ix ix' (d_nm n_is_fraction_0) de_int (fun _ _ => rfl)) da_nil) (lenC lenN) (nd_is_integer)))) (dw_or1 (dt_not (dt_val (de_call G_is_integer (hr.mono (by decide)) hG g_is_fraction_is_integer q_is_integer K_is_integer b_is_integer (da_cons (de_ix ix' (d_nm n_is_fraction_0) de_int (fun _ _ => rfl)) da_nil) (lenC lenN) (nd_is_integer)))))))) (db_one (ds_ret de_bool)) db_nil)
    (db_one (ds_ret (de_and (de_cmp op_ge' (de_ix ix' (d_nm n_is_fraction_0) de_int (fun _ _ => rfl)) de_int (nomark _)) (de_one (de_cmp (op_eq' (hu64 hr)) (de_call G_common (hr.mono (by decide)) hG g_is_fraction_common q_common K_common b_common (da_cons (de_ix ix' (d_nm n_is_fraction_0) de_int (fun _ _ => rfl)) (da_cons (de_ix ix' (d_nm n_is_fraction_0) de_int (fun _ _ => rfl)) da_nil)) (lenC (lenC lenN)) (nd_common)) de_int (nomark _)))))))
abbrev N_frac : List Str := ["top", "bottom", "divisor"]
theorem S_frac : FnScope N_frac ["top", "bottom"] (defScope s_frac) := ⟨rfl, rfl, rfl, by decide +kernel, rfl, by decide +kernel, by decide +kernel⟩
theorem n_frac_1 : NmOk N_frac (defScope s_frac) 1 "bottom" := nmB_ok (by decide +kernel)
theorem n_frac_2 : NmOk N_frac (defScope s_frac) 2 "divisor" := nmB_ok (by decide +kernel)
theorem n_frac_0 : NmOk N_frac (defScope s_frac) 0 "top" := nmB_ok (by decide +kernel)
theorem l_frac_2 : LcOk N_frac (defScope s_frac) 2 "divisor" := lcB_ok (by decide +kernel)
theorem g_frac_common : (defScope s_frac).names.lookup ("common" : Str) = some .globalImplicit := by decide +kernel
def Ok_frac (P : Program) (w : World) (K : PySem.W.Frag) (mg : Str → Option Value) (base : Heap) : Prop := ∃ f fd, mg ("frac" : Str) = some (.ref f) ∧ PySem.W.keepIn K (.ref f) = true ∧ Binds K fd ["top", "bottom"] [] ∧ FnG P w K mg base 2 f fd ["top", "bottom"] (spD K 2 m_frac)
theorem ok_frac (T : Top K mg) (h_common : Ok_common P w K mg base) : Ok_frac P w K mg base := by
  obtain ⟨f, fd, hq, F⟩ := T.d_frac
  obtain ⟨f_common, fd_common, q_common, K_common, b_common, G_common⟩ := h_common
  refine ⟨f, fd, hq, F.kp, F.bindsN (fun _ _ _ _ _ _ us hl => match us, hl with | [_, _], _ => rfl), ?_⟩
  refine fn_D F S_frac fun cdv A outer s H hr hG => ?_
  exact (db_cons (d_set S_frac.nd l_frac_2 (fun _ => rfl) (de_call G_common (hr.mono (by decide)) hG g_frac_common q_common K_common b_common (da_cons (d_nm n_frac_0) (da_cons (d_nm n_frac_1) da_nil)) (lenC (lenC lenN)) (nd_common)))
    (db_cons (ds_if (dt_cmp op_lt' (d_nm n_frac_1) de_int (nomark _)) (db_one (d_set S_frac.nd l_frac_2 (fun _ => rfl) (de_un un_neg' (d_nm n_frac_2)))) db_nil)
    (db_one (ds_ret (de_tup (da_cons (de_op op_div' (d_nm n_frac_0) (d_nm n_frac_2)) (da_cons (de_op op_div' (d_nm n_frac_1) (d_nm n_frac_2)) da_nil)))))))
abbrev N_less : List Str := ["one", "other"]
theorem S_less : FnScope N_less ["one", "other"] (defScope s_less) := ⟨rfl, rfl, rfl, by decide +kernel, rfl, by decide +kernel, by decide +kernel⟩
theorem n_less_0 : NmOk N_less (defScope s_less) 0 "one" := nmB_ok (by decide +kernel)
theorem n_less_1 : NmOk N_less (defScope s_less) 1 "other" := nmB_ok (by decide +kernel)
def Ok_less (P : Program) (w : World) (K : PySem.W.Frag) (mg : Str → Option Value) (base : Heap) : Prop := ∃ f fd, mg ("less" : Str) = some (.ref f) ∧ PySem.W.keepIn K (.ref f) = true ∧ Binds K fd ["one", "other"] [] ∧ FnG P w K mg base 1 f fd ["one", "other"] (spD K 2 m_less)
theorem ok_less (T : Top K mg) : Ok_less P w K mg base := by
  obtain ⟨f, fd, hq, F⟩ := T.d_less
  refine ⟨f, fd, hq, F.kp, F.bindsN (fun _ _ _ _ _ _ us hl => match us, hl with | [_, _], _ => rfl), ?_⟩
  refine fn_D F S_less fun cdv A outer s H hr hG => ?_
  exact (db_one (ds_ret (de_cmp op_lt' (de_op op_mul' (de_ix ix' (d_nm n_less_0) de_int (fun _ _ => rfl)) (de_ix ix' (d_nm n_less_1) de_int (fun _ _ => rfl))) (de_op op_mul' (de_ix ix' (d_nm n_less_1) de_int (fun _ _ => rfl)) (de_ix ix' (d_nm n_less_0) de_int (fun _ _ => rfl))) (nomark _))))
abbrev N_is_signs : List Str := ["thing", "sign"]
theorem S_is_signs : FnScope N_is_signs ["thing"] (defScope s_is_signs) := ⟨rfl, rfl, rfl, by decide +kernel, rfl, by decide +kernel, by decide +kernel⟩
abbrev c_is_signs_1 : Scope := ({ kind := .function, names := [(Str.ofString ".0", .local), (Str.ofString "sign", .local), (Str.ofString "FREE", .globalImplicit), (Str.ofString "DUTY", .globalImplicit)], isGenerator := false, isCoroutine := false, more := [] } : Scope)
theorem n_is_signs_0 : NmOk N_is_signs (defScope s_is_signs) 0 "thing" := nmB_ok (by decide +kernel)
theorem g_is_signs_isinstance : (defScope s_is_signs).names.lookup ("isinstance" : Str) = some .globalImplicit := by decide +kernel
theorem g_is_signs_str : (defScope s_is_signs).names.lookup ("str" : Str) = some .globalImplicit := by decide +kernel
theorem g_is_signs_len : (defScope s_is_signs).names.lookup ("len" : Str) = some .globalImplicit := by decide +kernel
theorem l_is_signs_b1_1 : LcOk N_is_signs (relS c_is_signs_1 (defScope s_is_signs)) 1 "sign" := lcB_ok (by decide +kernel)
theorem o_is_signs_b1_1 : (relS c_is_signs_1 (defScope s_is_signs)).names.lookup ("sign" : Str) = some .local := by decide +kernel
theorem n_is_signs_b1_1 : NmOk N_is_signs (relS c_is_signs_1 (defScope s_is_signs)) 1 "sign" := nmB_ok (by decide +kernel)
theorem g_is_signs_b1_DUTY : (relS c_is_signs_1 (defScope s_is_signs)).names.lookup ("DUTY" : Str) = some .globalImplicit := by decide +kernel
theorem g_is_signs_b1_FREE : (relS c_is_signs_1 (defScope s_is_signs)).names.lookup ("FREE" : Str) = some .globalImplicit := by decide +kernel
theorem g_is_signs_all : (defScope s_is_signs).names.lookup ("all" : Str) = some .globalImplicit := by decide +kernel
def Ok_is_signs (P : Program) (w : World) (K : PySem.W.Frag) (mg : Str → Option Value) (base : Heap) : Prop := ∃ f fd, mg ("is_signs" : Str) = some (.ref f) ∧ PySem.W.keepIn K (.ref f) = true ∧ Binds K fd ["thing"] [] ∧ FnG P w K mg base 1 f fd ["thing"] (spD K 1 m_is_signs)
theorem ok_is_signs (T : Top K mg) : Ok_is_signs P w K mg base := by
  obtain ⟨f, fd, hq, F⟩ := T.d_is_signs
  have z_str := T.z_str
  have z_isinstance := T.z_isinstance
  have z_len := T.z_len
  have z_all := T.z_all
  obtain ⟨v_DUTY, k_DUTY⟩ := T.k_DUTY
  obtain ⟨v_FREE, k_FREE⟩ := T.k_FREE
  refine ⟨f, fd, hq, F.kp, F.bindsN (fun _ _ _ _ _ _ us hl => match us, hl with | [_], _ => rfl), ?_⟩
  refine fn_D F S_is_signs fun cdv A outer s H hr hG => ?_
  exact (db_one (ds_ret (de_and (de_isi g_is_signs_isinstance z_isinstance g_is_signs_str z_str bt_str bt_isinstance (by decide) nd_str (d_nm n_is_signs_0)) (de_and (de_cmp op_gt' (de_callB call_len' g_is_signs_len z_len bt_len (da_cons (d_nm n_is_signs_0) da_nil)) de_int (nomark _)) (de_one (de_callB (call_all' rfl) g_is_signs_all z_all bt_all (da_cons (de_of (df_lc (own := [("sign", 1)]) rfl S_is_signs.nd (di_any (d_nm n_is_signs_0)) (blkOk_by (N := N_is_signs) (sc := defScope s_is_signs) (by decide +kernel)) (fun _ _ _ _ _ => (d_gcnm S_is_signs.nd l_is_signs_b1_1 o_is_signs_b1_1 (by decide))) (fun _ _ _ _ _ => dts_nil) (fun _ _ _ _ _ => (de_cmp (op_in' (hu65 hr)) (d_nm n_is_signs_b1_1) (de_tup (da_cons (d_str (u := .none) g_is_signs_b1_FREE k_FREE (nd_FREE)) (da_cons (d_str (u := .none) g_is_signs_b1_DUTY k_DUTY (nd_DUTY)) da_nil))) (by rfl))))) da_nil)))))))
abbrev N_is_row : List Str := ["thing"]
theorem S_is_row : FnScope N_is_row ["thing"] (defScope s_is_row) := ⟨rfl, rfl, rfl, by decide +kernel, rfl, by decide +kernel, by decide +kernel⟩
theorem n_is_row_0 : NmOk N_is_row (defScope s_is_row) 0 "thing" := nmB_ok (by decide +kernel)
theorem g_is_row_is_signs : (defScope s_is_row).names.lookup ("is_signs" : Str) = some .globalImplicit := by decide +kernel
theorem g_is_row_len : (defScope s_is_row).names.lookup ("len" : Str) = some .globalImplicit := by decide +kernel
theorem g_is_row_MOST_DAYS : (defScope s_is_row).names.lookup ("MOST_DAYS" : Str) = some .globalImplicit := by decide +kernel
def Ok_is_row (P : Program) (w : World) (K : PySem.W.Frag) (mg : Str → Option Value) (base : Heap) : Prop := ∃ f fd, mg ("is_row" : Str) = some (.ref f) ∧ PySem.W.keepIn K (.ref f) = true ∧ Binds K fd ["thing"] [] ∧ FnG P w K mg base 2 f fd ["thing"] (spD K 1 m_is_row)
theorem ok_is_row (T : Top K mg) (h_is_signs : Ok_is_signs P w K mg base) : Ok_is_row P w K mg base := by
  obtain ⟨f, fd, hq, F⟩ := T.d_is_row
  obtain ⟨f_is_signs, fd_is_signs, q_is_signs, K_is_signs, b_is_signs, G_is_signs⟩ := h_is_signs
  have z_len := T.z_len
  obtain ⟨v_MOST_DAYS, k_MOST_DAYS⟩ := T.k_MOST_DAYS
  refine ⟨f, fd, hq, F.kp, F.bindsN (fun _ _ _ _ _ _ us hl => match us, hl with | [_], _ => rfl), ?_⟩
  refine fn_D F S_is_row fun cdv A outer s H hr hG => ?_
  exact (db_one (ds_ret (de_and (de_call G_is_signs (hr.mono (by decide)) hG g_is_row_is_signs q_is_signs K_is_signs b_is_signs (da_cons (d_nm n_is_row_0) da_nil) (lenC lenN) (nd_is_signs)) (de_one (de_cmp op_le' (de_callB call_len' g_is_row_len z_len bt_len (da_cons (d_nm n_is_row_0) da_nil)) (d_gint g_is_row_MOST_DAYS k_MOST_DAYS (nd_MOST_DAYS)) (nomark _))))))
abbrev N_check_row : List Str := ["row"]
theorem S_check_row : FnScope N_check_row ["row"] (defScope s_check_row) := ⟨rfl, rfl, rfl, by decide +kernel, rfl, by decide +kernel, by decide +kernel⟩
theorem n_check_row_0 : NmOk N_check_row (defScope s_check_row) 0 "row" := nmB_ok (by decide +kernel)
theorem g_check_row_is_row : (defScope s_check_row).names.lookup ("is_row" : Str) = some .globalImplicit := by decide +kernel
def Ok_check_row (P : Program) (w : World) (K : PySem.W.Frag) (mg : Str → Option Value) (base : Heap) : Prop := ∃ f fd, mg ("check_row" : Str) = some (.ref f) ∧ PySem.W.keepIn K (.ref f) = true ∧ Binds K fd ["row"] [] ∧ FnG P w K mg base 3 f fd ["row"] (spD K 1 m_check_row)
theorem ok_check_row (T : Top K mg) (h_is_row : Ok_is_row P w K mg base) : Ok_check_row P w K mg base := by
  obtain ⟨f, fd, hq, F⟩ := T.d_check_row
  obtain ⟨f_is_row, fd_is_row, q_is_row, K_is_row, b_is_row, G_is_row⟩ := h_is_row
  refine ⟨f, fd, hq, F.kp, F.bindsN (fun _ _ _ _ _ _ us hl => match us, hl with | [_], _ => rfl), ?_⟩
  refine fn_D F S_check_row fun cdv A outer s H hr hG => ?_
  exact (db_one (ds_if (dt_not (dt_val (de_call G_is_row (hr.mono (by decide)) hG g_check_row_is_row q_is_row K_is_row b_is_row (da_cons (d_nm n_check_row_0) da_nil) (lenC lenN) (nd_is_row)))) (db_one ds_never) db_nil))
abbrev N_duties_of : List Str := ["row", "day", "sign"]
theorem S_duties_of : FnScope N_duties_of ["row"] (defScope s_duties_of) := ⟨rfl, rfl, rfl, by decide +kernel, rfl, by decide +kernel, by decide +kernel⟩
abbrev c_duties_of_1 : Scope := ({ kind := .function, names := [(Str.ofString ".0", .local), (Str.ofString "day", .local), (Str.ofString "sign", .local), (Str.ofString "DUTY", .globalImplicit)], isGenerator := false, isCoroutine := false, more := [] } : Scope)
theorem n_duties_of_0 : NmOk N_duties_of (defScope s_duties_of) 0 "row" := nmB_ok (by decide +kernel)
theorem g_duties_of_enumerate : (defScope s_duties_of).names.lookup ("enumerate" : Str) = some .globalImplicit := by decide +kernel
theorem l_duties_of_b1_2 : LcOk N_duties_of (relS c_duties_of_1 (defScope s_duties_of)) 2 "sign" := lcB_ok (by decide +kernel)
theorem o_duties_of_b1_2 : (relS c_duties_of_1 (defScope s_duties_of)).names.lookup ("sign" : Str) = some .local := by decide +kernel
theorem l_duties_of_b1_1 : LcOk N_duties_of (relS c_duties_of_1 (defScope s_duties_of)) 1 "day" := lcB_ok (by decide +kernel)
theorem o_duties_of_b1_1 : (relS c_duties_of_1 (defScope s_duties_of)).names.lookup ("day" : Str) = some .local := by decide +kernel
theorem n_duties_of_b1_2 : NmOk N_duties_of (relS c_duties_of_1 (defScope s_duties_of)) 2 "sign" := nmB_ok (by decide +kernel)
theorem g_duties_of_b1_DUTY : (relS c_duties_of_1 (defScope s_duties_of)).names.lookup ("DUTY" : Str) = some .globalImplicit := by decide +kernel
theorem n_duties_of_b1_1 : NmOk N_duties_of (relS c_duties_of_1 (defScope s_duties_of)) 1 "day" := nmB_ok (by decide +kernel)
def Ok_duties_of (P : Program) (w : World) (K : PySem.W.Frag) (mg : Str → Option Value) (base : Heap) : Prop := ∃ f fd, mg ("duties_of" : Str) = some (.ref f) ∧ PySem.W.keepIn K (.ref f) = true ∧ Binds K fd ["row"] [] ∧ FnG P w K mg base 1 f fd ["row"] (spD K 1 m_duties_of)
theorem ok_duties_of (T : Top K mg) : Ok_duties_of P w K mg base := by
  obtain ⟨f, fd, hq, F⟩ := T.d_duties_of
  have z_enumerate := T.z_enumerate
  obtain ⟨v_DUTY, k_DUTY⟩ := T.k_DUTY
  refine ⟨f, fd, hq, F.kp, F.bindsN (fun _ _ _ _ _ _ us hl => match us, hl with | [_], _ => rfl), ?_⟩
  refine fn_D F S_duties_of fun cdv A outer s H hr hG => ?_
  exact (db_one (ds_ret (de_of (df_lc (own := [("day", 1), ("sign", 2)]) rfl S_duties_of.nd (di_enA g_duties_of_enumerate z_enumerate (da_cons (d_nm n_duties_of_0) da_nil)) (blkOk_by (N := N_duties_of) (sc := defScope s_duties_of) (by decide +kernel)) (fun _ _ _ _ _ => (dgc_tup rfl (dgsc_cons (d_gcnm S_duties_of.nd l_duties_of_b1_1 o_duties_of_b1_1 (by decide)) (dgsc_cons (d_gcnm S_duties_of.nd l_duties_of_b1_2 o_duties_of_b1_2 (by decide)) dgsc_nil)))) (fun _ _ _ _ _ => (dts_one (dt_cmp (op_eq' (hu64 hr)) (d_nm n_duties_of_b1_2) (d_str (u := .none) g_duties_of_b1_DUTY k_DUTY (nd_DUTY)) (nomark _)))) (fun _ _ _ _ _ => (d_nm n_duties_of_b1_1))))))
abbrev N_round_gaps : List Str := ["row", "days", "later", "day", "after"]
theorem S_round_gaps : FnScope N_round_gaps ["row"] (defScope s_round_gaps) := ⟨rfl, rfl, rfl, by decide +kernel, rfl, by decide +kernel, by decide +kernel⟩
abbrev c_round_gaps_1 : Scope := ({ kind := .function, names := [(Str.ofString ".0", .local), (Str.ofString "day", .local), (Str.ofString "after", .local)], isGenerator := false, isCoroutine := false, more := [] } : Scope)
theorem n_round_gaps_2 : NmOk N_round_gaps (defScope s_round_gaps) 2 "later" := nmB_ok (by decide +kernel)
theorem n_round_gaps_1 : NmOk N_round_gaps (defScope s_round_gaps) 1 "days" := nmB_ok (by decide +kernel)
theorem g_round_gaps_zip : (defScope s_round_gaps).names.lookup ("zip" : Str) = some .globalImplicit := by decide +kernel
theorem l_round_gaps_b1_4 : LcOk N_round_gaps (relS c_round_gaps_1 (defScope s_round_gaps)) 4 "after" := lcB_ok (by decide +kernel)
theorem o_round_gaps_b1_4 : (relS c_round_gaps_1 (defScope s_round_gaps)).names.lookup ("after" : Str) = some .local := by decide +kernel
theorem l_round_gaps_b1_3 : LcOk N_round_gaps (relS c_round_gaps_1 (defScope s_round_gaps)) 3 "day" := lcB_ok (by decide +kernel)
theorem o_round_gaps_b1_3 : (relS c_round_gaps_1 (defScope s_round_gaps)).names.lookup ("day" : Str) = some .local := by decide +kernel
theorem n_round_gaps_b1_4 : NmOk N_round_gaps (relS c_round_gaps_1 (defScope s_round_gaps)) 4 "after" := nmB_ok (by decide +kernel)
theorem n_round_gaps_b1_3 : NmOk N_round_gaps (relS c_round_gaps_1 (defScope s_round_gaps)) 3 "day" := nmB_ok (by decide +kernel)
theorem n_round_gaps_0 : NmOk N_round_gaps (defScope s_round_gaps) 0 "row" := nmB_ok (by decide +kernel)
theorem g_round_gaps_len : (defScope s_round_gaps).names.lookup ("len" : Str) = some .globalImplicit := by decide +kernel
theorem l_round_gaps_2 : LcOk N_round_gaps (defScope s_round_gaps) 2 "later" := lcB_ok (by decide +kernel)
theorem g_round_gaps_duties_of : (defScope s_round_gaps).names.lookup ("duties_of" : Str) = some .globalImplicit := by decide +kernel
theorem l_round_gaps_1 : LcOk N_round_gaps (defScope s_round_gaps) 1 "days" := lcB_ok (by decide +kernel)
def Ok_round_gaps (P : Program) (w : World) (K : PySem.W.Frag) (mg : Str → Option Value) (base : Heap) : Prop := ∃ f fd, mg ("round_gaps" : Str) = some (.ref f) ∧ PySem.W.keepIn K (.ref f) = true ∧ Binds K fd ["row"] [] ∧ FnG P w K mg base 2 f fd ["row"] (spD K 1 m_round_gaps)
theorem ok_round_gaps (T : Top K mg) (h_duties_of : Ok_duties_of P w K mg base) : Ok_round_gaps P w K mg base := by
  obtain ⟨f, fd, hq, F⟩ := T.d_round_gaps
  obtain ⟨f_duties_of, fd_duties_of, q_duties_of, K_duties_of, b_duties_of, G_duties_of⟩ := h_duties_of
  have z_zip := T.z_zip
  have z_len := T.z_len
  refine ⟨f, fd, hq, F.kp, F.bindsN (fun _ _ _ _ _ _ us hl => match us, hl with | [_], _ => rfl), ?_⟩
  refine fn_D F S_round_gaps fun cdv A outer s H hr hG => ?_
  exact (db_cons (d_set S_round_gaps.nd l_round_gaps_1 (fun _ => rfl) (de_call G_duties_of (hr.mono (by decide)) hG g_round_gaps_duties_of q_duties_of K_duties_of b_duties_of (da_cons (d_nm n_round_gaps_0) da_nil) (lenC lenN) (nd_duties_of)))
    (db_cons (d_set S_round_gaps.nd l_round_gaps_2 (fun _ => rfl) (de_op op_add' (de_sl sl' (d_nm n_round_gaps_1) (do_some de_int) do_none) (de_of (df_lst (da_cons (de_op op_add' (de_ix ix' (d_nm n_round_gaps_1) de_int (fun _ _ => rfl)) (de_callB call_len' g_round_gaps_len z_len bt_len (da_cons (d_nm n_round_gaps_0) da_nil))) da_nil)))))
    (db_one (ds_ret (de_of (df_lc (own := [("day", 3), ("after", 4)]) rfl S_round_gaps.nd (di_zip g_round_gaps_zip z_zip (da_cons (d_nm n_round_gaps_1) (da_cons (d_nm n_round_gaps_2) da_nil))) (blkOk_by (N := N_round_gaps) (sc := defScope s_round_gaps) (by decide +kernel)) (fun _ _ _ _ _ => (dgc_tup rfl (dgsc_cons (d_gcnm S_round_gaps.nd l_round_gaps_b1_3 o_round_gaps_b1_3 (by decide)) (dgsc_cons (d_gcnm S_round_gaps.nd l_round_gaps_b1_4 o_round_gaps_b1_4 (by decide)) dgsc_nil)))) (fun _ _ _ _ _ => dts_nil) (fun _ _ _ _ _ => (de_op op_sub' (d_nm n_round_gaps_b1_4) (d_nm n_round_gaps_b1_3)))))))))
abbrev N_check_duty : List Str := ["row"]
theorem S_check_duty : FnScope N_check_duty ["row"] (defScope s_check_duty) := ⟨rfl, rfl, rfl, by decide +kernel, rfl, by decide +kernel, by decide +kernel⟩
theorem g_check_duty_DUTY : (defScope s_check_duty).names.lookup ("DUTY" : Str) = some .globalImplicit := by decide +kernel
theorem n_check_duty_0 : NmOk N_check_duty (defScope s_check_duty) 0 "row" := nmB_ok (by decide +kernel)
theorem g_check_duty_check_row : (defScope s_check_duty).names.lookup ("check_row" : Str) = some .globalImplicit := by decide +kernel
def Ok_check_duty (P : Program) (w : World) (K : PySem.W.Frag) (mg : Str → Option Value) (base : Heap) : Prop := ∃ f fd, mg ("check_duty" : Str) = some (.ref f) ∧ PySem.W.keepIn K (.ref f) = true ∧ Binds K fd ["row"] [] ∧ FnG P w K mg base 4 f fd ["row"] (spD K 1 m_check_duty)
theorem ok_check_duty (T : Top K mg) (h_check_row : Ok_check_row P w K mg base) : Ok_check_duty P w K mg base := by
  obtain ⟨f, fd, hq, F⟩ := T.d_check_duty
  obtain ⟨f_check_row, fd_check_row, q_check_row, K_check_row, b_check_row, G_check_row⟩ := h_check_row
  obtain ⟨v_DUTY, k_DUTY⟩ := T.k_DUTY
  refine ⟨f, fd, hq, F.kp, F.bindsN (fun _ _ _ _ _ _ us hl => match us, hl with | [_], _ => rfl), ?_⟩
  refine fn_D F S_check_duty fun cdv A outer s H hr hG => ?_
  exact (db_cons (ds_expr (de_call G_check_row (hr.mono (by decide)) hG g_check_duty_check_row q_check_row K_check_row b_check_row (da_cons (d_nm n_check_duty_0) da_nil) (lenC lenN) (nd_check_row)))
    (db_one (ds_if (dt_cmp (op_notIn' (hu65 hr)) (d_str (u := .none) g_check_duty_DUTY k_DUTY (nd_DUTY)) (d_nm n_check_duty_0) (by rfl)) (db_one ds_never) db_nil)))
abbrev N_gaps_of : List Str := ["row"]
theorem S_gaps_of : FnScope N_gaps_of ["row"] (defScope s_gaps_of) := ⟨rfl, rfl, rfl, by decide +kernel, rfl, by decide +kernel, by decide +kernel⟩
theorem n_gaps_of_0 : NmOk N_gaps_of (defScope s_gaps_of) 0 "row" := nmB_ok (by decide +kernel)
theorem g_gaps_of_round_gaps : (defScope s_gaps_of).names.lookup ("round_gaps" : Str) = some .globalImplicit := by decide +kernel
theorem g_gaps_of_tuple : (defScope s_gaps_of).names.lookup ("tuple" : Str) = some .globalImplicit := by decide +kernel
theorem g_gaps_of_check_duty : (defScope s_gaps_of).names.lookup ("check_duty" : Str) = some .globalImplicit := by decide +kernel
def Ok_gaps_of (P : Program) (w : World) (K : PySem.W.Frag) (mg : Str → Option Value) (base : Heap) : Prop := ∃ f fd, mg ("gaps_of" : Str) = some (.ref f) ∧ PySem.W.keepIn K (.ref f) = true ∧ Binds K fd ["row"] [] ∧ FnG P w K mg base 5 f fd ["row"] (spD K 1 m_gaps_of)
theorem ok_gaps_of (T : Top K mg) (h_round_gaps : Ok_round_gaps P w K mg base) (h_check_duty : Ok_check_duty P w K mg base) : Ok_gaps_of P w K mg base := by
  obtain ⟨f, fd, hq, F⟩ := T.d_gaps_of
  obtain ⟨f_round_gaps, fd_round_gaps, q_round_gaps, K_round_gaps, b_round_gaps, G_round_gaps⟩ := h_round_gaps
  obtain ⟨f_check_duty, fd_check_duty, q_check_duty, K_check_duty, b_check_duty, G_check_duty⟩ := h_check_duty
  have z_tuple := T.z_tuple
  refine ⟨f, fd, hq, F.kp, F.bindsN (fun _ _ _ _ _ _ us hl => match us, hl with | [_], _ => rfl), ?_⟩
  refine fn_D F S_gaps_of fun cdv A outer s H hr hG => ?_
  exact (db_cons (ds_expr (de_call G_check_duty (hr.mono (by decide)) hG g_gaps_of_check_duty q_check_duty K_check_duty b_check_duty (da_cons (d_nm n_gaps_of_0) da_nil) (lenC lenN) (nd_check_duty)))
    (db_one (ds_ret (de_callTy call_tuple' g_gaps_of_tuple z_tuple bt_tuple (da_cons (de_call G_round_gaps (hr.mono (by decide)) hG g_gaps_of_round_gaps q_round_gaps K_round_gaps b_round_gaps (da_cons (d_nm n_gaps_of_0) da_nil) (lenC lenN) (nd_round_gaps)) da_nil)))))
abbrev N_derived_of : List Str := ["row", "gaps", "least", "gap"]
theorem S_derived_of : FnScope N_derived_of ["row"] (defScope s_derived_of) := ⟨rfl, rfl, rfl, by decide +kernel, rfl, by decide +kernel, by decide +kernel⟩
abbrev c_derived_of_1 : Scope := ({ kind := .function, names := [(Str.ofString ".0", .local), (Str.ofString "gap", .local), (Str.ofString "DUTY", .globalImplicit), (Str.ofString "FREE", .globalImplicit), (Str.ofString "least", .free)], isGenerator := false, isCoroutine := false, more := [] } : Scope)
abbrev c_derived_of_2 : Scope := ({ kind := .function, names := [(Str.ofString ".0", .local), (Str.ofString "gap", .local), (Str.ofString "least", .free)], isGenerator := false, isCoroutine := false, more := [] } : Scope)
theorem n_derived_of_2 : NmOk N_derived_of (defScope s_derived_of) 2 "least" := nmB_ok (by decide +kernel)
theorem n_derived_of_1 : NmOk N_derived_of (defScope s_derived_of) 1 "gaps" := nmB_ok (by decide +kernel)
theorem l_derived_of_b1_3 : LcOk N_derived_of (relS c_derived_of_1 (defScope s_derived_of)) 3 "gap" := lcB_ok (by decide +kernel)
theorem o_derived_of_b1_3 : (relS c_derived_of_1 (defScope s_derived_of)).names.lookup ("gap" : Str) = some .local := by decide +kernel
theorem n_derived_of_b1_3 : NmOk N_derived_of (relS c_derived_of_1 (defScope s_derived_of)) 3 "gap" := nmB_ok (by decide +kernel)
theorem n_derived_of_b1_2 : NmOk N_derived_of (relS c_derived_of_1 (defScope s_derived_of)) 2 "least" := nmB_ok (by decide +kernel)
theorem g_derived_of_b1_DUTY : (relS c_derived_of_1 (defScope s_derived_of)).names.lookup ("DUTY" : Str) = some .globalImplicit := by decide +kernel
theorem g_derived_of_b1_FREE : (relS c_derived_of_1 (defScope s_derived_of)).names.lookup ("FREE" : Str) = some .globalImplicit := by decide +kernel
theorem l_derived_of_b2_3 : LcOk N_derived_of (relS c_derived_of_2 (defScope s_derived_of)) 3 "gap" := lcB_ok (by decide +kernel)
theorem o_derived_of_b2_3 : (relS c_derived_of_2 (defScope s_derived_of)).names.lookup ("gap" : Str) = some .local := by decide +kernel
theorem n_derived_of_b2_3 : NmOk N_derived_of (relS c_derived_of_2 (defScope s_derived_of)) 3 "gap" := nmB_ok (by decide +kernel)
theorem n_derived_of_b2_2 : NmOk N_derived_of (relS c_derived_of_2 (defScope s_derived_of)) 2 "least" := nmB_ok (by decide +kernel)
theorem g_derived_of_all : (defScope s_derived_of).names.lookup ("all" : Str) = some .globalImplicit := by decide +kernel
theorem n_derived_of_0 : NmOk N_derived_of (defScope s_derived_of) 0 "row" := nmB_ok (by decide +kernel)
theorem g_derived_of_len : (defScope s_derived_of).names.lookup ("len" : Str) = some .globalImplicit := by decide +kernel
theorem l_derived_of_2 : LcOk N_derived_of (defScope s_derived_of) 2 "least" := lcB_ok (by decide +kernel)
theorem g_derived_of_round_gaps : (defScope s_derived_of).names.lookup ("round_gaps" : Str) = some .globalImplicit := by decide +kernel
theorem l_derived_of_1 : LcOk N_derived_of (defScope s_derived_of) 1 "gaps" := lcB_ok (by decide +kernel)
def Ok_derived_of (P : Program) (w : World) (K : PySem.W.Frag) (mg : Str → Option Value) (base : Heap) : Prop := ∃ f fd, mg ("derived_of" : Str) = some (.ref f) ∧ PySem.W.keepIn K (.ref f) = true ∧ Binds K fd ["row"] [] ∧ FnG P w K mg base 3 f fd ["row"] (spD K 1 m_derived_of)
theorem ok_derived_of (T : Top K mg) (h_round_gaps : Ok_round_gaps P w K mg base) : Ok_derived_of P w K mg base := by
  obtain ⟨f, fd, hq, F⟩ := T.d_derived_of
  obtain ⟨f_round_gaps, fd_round_gaps, q_round_gaps, K_round_gaps, b_round_gaps, G_round_gaps⟩ := h_round_gaps
  have z_all := T.z_all
  have z_len := T.z_len
  obtain ⟨v_DUTY, k_DUTY⟩ := T.k_DUTY
  obtain ⟨v_FREE, k_FREE⟩ := T.k_FREE
  refine ⟨f, fd, hq, F.kp, F.bindsN (fun _ _ _ _ _ _ us hl => match us, hl with | [_], _ => rfl), ?_⟩
  refine fn_D F S_derived_of fun cdv A outer s H hr hG => ?_
  exact (db_cons (d_set S_derived_of.nd l_derived_of_1 (fun _ => rfl) (de_call G_round_gaps (hr.mono (by decide)) hG g_derived_of_round_gaps q_round_gaps K_round_gaps b_round_gaps (da_cons (d_nm n_derived_of_0) da_nil) (lenC lenN) (nd_round_gaps)))
    (db_cons (d_set S_derived_of.nd l_derived_of_2 (fun _ => rfl) (de_op op_div' (de_callB call_len' g_derived_of_len z_len bt_len (da_cons (d_nm n_derived_of_0) da_nil)) (de_callB call_len' g_derived_of_len z_len bt_len (da_cons (d_nm n_derived_of_1) da_nil))))
    (db_cons (ds_if (dt_not (dt_val (de_callB (call_all' rfl) g_derived_of_all z_all bt_all (da_cons (de_of (df_lc (own := [("gap", 3)]) rfl S_derived_of.nd (di_any (d_nm n_derived_of_1)) (blkOk_by (N := N_derived_of) (sc := defScope s_derived_of) (by decide +kernel)) (fun _ _ _ _ _ => (d_gcnm S_derived_of.nd l_derived_of_b2_3 o_derived_of_b2_3 (by decide))) (fun _ _ _ _ _ => dts_nil) (fun _ _ _ _ _ => (de_cmp (op_in' (hu65 hr)) (d_nm n_derived_of_b2_3) (de_tup (da_cons (d_nm n_derived_of_b2_2) (da_cons (de_op op_add' (d_nm n_derived_of_b2_2) de_int) da_nil))) (by rfl))))) da_nil)))) (db_one (ds_ret de_none)) db_nil)
    (db_one (ds_ret (de_tup (da_cons (de_meth PySem.F.plainAttrs_str PySem.F.slot_str_join PySem.F.type_str_join mt_join' de_str (da_cons (de_of (df_lc (own := [("gap", 3)]) rfl S_derived_of.nd (di_any (d_nm n_derived_of_1)) (blkOk_by (N := N_derived_of) (sc := defScope s_derived_of) (by decide +kernel)) (fun _ _ _ _ _ => (d_gcnm S_derived_of.nd l_derived_of_b1_3 o_derived_of_b1_3 (by decide))) (fun _ _ _ _ _ => dts_nil) (fun _ _ _ _ _ => (de_if (dt_cmp op_gt' (d_nm n_derived_of_b1_3) (d_nm n_derived_of_b1_2) (nomark _)) (d_str (u := .none) g_derived_of_b1_DUTY k_DUTY (nd_DUTY)) (d_str (u := .none) g_derived_of_b1_FREE k_FREE (nd_FREE)))))) da_nil) ty_join) (da_cons (d_nm n_derived_of_2) da_nil))))))))
abbrev N_derived : List Str := ["row"]
theorem S_derived : FnScope N_derived ["row"] (defScope s_derived) := ⟨rfl, rfl, rfl, by decide +kernel, rfl, by decide +kernel, by decide +kernel⟩
theorem n_derived_0 : NmOk N_derived (defScope s_derived) 0 "row" := nmB_ok (by decide +kernel)
theorem g_derived_derived_of : (defScope s_derived).names.lookup ("derived_of" : Str) = some .globalImplicit := by decide +kernel
theorem g_derived_check_duty : (defScope s_derived).names.lookup ("check_duty" : Str) = some .globalImplicit := by decide +kernel
def Ok_derived (P : Program) (w : World) (K : PySem.W.Frag) (mg : Str → Option Value) (base : Heap) : Prop := ∃ f fd, mg ("derived" : Str) = some (.ref f) ∧ PySem.W.keepIn K (.ref f) = true ∧ Binds K fd ["row"] [] ∧ FnG P w K mg base 5 f fd ["row"] (spD K 1 m_derived)
theorem ok_derived (T : Top K mg) (h_derived_of : Ok_derived_of P w K mg base) (h_check_duty : Ok_check_duty P w K mg base) : Ok_derived P w K mg base := by
  obtain ⟨f, fd, hq, F⟩ := T.d_derived
  obtain ⟨f_derived_of, fd_derived_of, q_derived_of, K_derived_of, b_derived_of, G_derived_of⟩ := h_derived_of
  obtain ⟨f_check_duty, fd_check_duty, q_check_duty, K_check_duty, b_check_duty, G_check_duty⟩ := h_check_duty
  refine ⟨f, fd, hq, F.kp, F.bindsN (fun _ _ _ _ _ _ us hl => match us, hl with | [_], _ => rfl), ?_⟩
  refine fn_D F S_derived fun cdv A outer s H hr hG => ?_
  exact (db_cons (ds_expr (de_call G_check_duty (hr.mono (by decide)) hG g_derived_check_duty q_check_duty K_check_duty b_check_duty (da_cons (d_nm n_derived_0) da_nil) (lenC lenN) (nd_check_duty)))
    (db_one (ds_ret (de_call G_derived_of (hr.mono (by decide)) hG g_derived_derived_of q_derived_of K_derived_of b_derived_of (da_cons (d_nm n_derived_0) da_nil) (lenC lenN) (nd_derived_of)))))
abbrev N_ladder_of : List Str := ["row", "stages", "here", "found", "gaps"]
theorem S_ladder_of : FnScope N_ladder_of ["row"] (defScope s_ladder_of) := ⟨rfl, rfl, rfl, by decide +kernel, rfl, by decide +kernel, by decide +kernel⟩
theorem n_ladder_of_1 : NmOk N_ladder_of (defScope s_ladder_of) 1 "stages" := nmB_ok (by decide +kernel)
theorem n_ladder_of_2 : NmOk N_ladder_of (defScope s_ladder_of) 2 "here" := nmB_ok (by decide +kernel)
theorem g_ladder_of_tuple : (defScope s_ladder_of).names.lookup ("tuple" : Str) = some .globalImplicit := by decide +kernel
theorem g_ladder_of_EVEN : (defScope s_ladder_of).names.lookup ("EVEN" : Str) = some .globalImplicit := by decide +kernel
theorem g_ladder_of_DUTY : (defScope s_ladder_of).names.lookup ("DUTY" : Str) = some .globalImplicit := by decide +kernel
theorem n_ladder_of_3 : NmOk N_ladder_of (defScope s_ladder_of) 3 "found" := nmB_ok (by decide +kernel)
theorem l_ladder_of_2 : LcOk N_ladder_of (defScope s_ladder_of) 2 "here" := lcB_ok (by decide +kernel)
theorem n_ladder_of_4 : NmOk N_ladder_of (defScope s_ladder_of) 4 "gaps" := nmB_ok (by decide +kernel)
theorem g_ladder_of_max : (defScope s_ladder_of).names.lookup ("max" : Str) = some .globalImplicit := by decide +kernel
theorem g_ladder_of_min : (defScope s_ladder_of).names.lookup ("min" : Str) = some .globalImplicit := by decide +kernel
theorem g_ladder_of_UNEVEN : (defScope s_ladder_of).names.lookup ("UNEVEN" : Str) = some .globalImplicit := by decide +kernel
theorem g_ladder_of_round_gaps : (defScope s_ladder_of).names.lookup ("round_gaps" : Str) = some .globalImplicit := by decide +kernel
theorem l_ladder_of_4 : LcOk N_ladder_of (defScope s_ladder_of) 4 "gaps" := lcB_ok (by decide +kernel)
theorem g_ladder_of_derived_of : (defScope s_ladder_of).names.lookup ("derived_of" : Str) = some .globalImplicit := by decide +kernel
theorem l_ladder_of_3 : LcOk N_ladder_of (defScope s_ladder_of) 3 "found" := lcB_ok (by decide +kernel)
theorem n_ladder_of_0 : NmOk N_ladder_of (defScope s_ladder_of) 0 "row" := nmB_ok (by decide +kernel)
theorem l_ladder_of_1 : LcOk N_ladder_of (defScope s_ladder_of) 1 "stages" := lcB_ok (by decide +kernel)
def Ok_ladder_of (P : Program) (w : World) (K : PySem.W.Frag) (mg : Str → Option Value) (base : Heap) : Prop := ∃ f fd, mg ("ladder_of" : Str) = some (.ref f) ∧ PySem.W.keepIn K (.ref f) = true ∧ Binds K fd ["row"] [] ∧ FnG P w K mg base 4 f fd ["row"] (spD K 1 m_ladder_of)
theorem ok_ladder_of (T : Top K mg) (h_round_gaps : Ok_round_gaps P w K mg base) (h_derived_of : Ok_derived_of P w K mg base) : Ok_ladder_of P w K mg base := by
  obtain ⟨f, fd, hq, F⟩ := T.d_ladder_of
  obtain ⟨f_round_gaps, fd_round_gaps, q_round_gaps, K_round_gaps, b_round_gaps, G_round_gaps⟩ := h_round_gaps
  obtain ⟨f_derived_of, fd_derived_of, q_derived_of, K_derived_of, b_derived_of, G_derived_of⟩ := h_derived_of
  have z_tuple := T.z_tuple
  have z_max := T.z_max
  have z_min := T.z_min
  obtain ⟨v_EVEN, k_EVEN⟩ := T.k_EVEN
  obtain ⟨v_DUTY, k_DUTY⟩ := T.k_DUTY
  obtain ⟨v_UNEVEN, k_UNEVEN⟩ := T.k_UNEVEN
  refine ⟨f, fd, hq, F.kp, F.bindsN (fun _ _ _ _ _ _ us hl => match us, hl with | [_], _ => rfl), ?_⟩
  refine fn_D F S_ladder_of fun cdv A outer s H hr hG => ?_
  exact (db_cons (d_own S_ladder_of.nd l_ladder_of_1 (fun _ => rfl) (df_lst da_nil))
    (db_cons (d_set S_ladder_of.nd l_ladder_of_2 (fun _ => rfl) (d_nm n_ladder_of_0))
    (db_cons (ds_while PassesOwn.never (dt_cmp (op_in' (hu65 hr)) (d_str (u := .none) g_ladder_of_DUTY k_DUTY (nd_DUTY)) (d_nm n_ladder_of_2) (by rfl)) (db_cons (d_set S_ladder_of.nd l_ladder_of_3 (fun _ => rfl) (de_call G_derived_of (hr.mono (by decide)) hG g_ladder_of_derived_of q_derived_of K_derived_of b_derived_of (da_cons (d_nm n_ladder_of_2) da_nil) (lenC lenN) (nd_derived_of)))
    (db_cons (ds_if (dt_cmp op_is' (d_nm n_ladder_of_3) de_none (nomark _)) (db_cons (d_set S_ladder_of.nd l_ladder_of_4 (fun _ => rfl) (de_call G_round_gaps (hr.mono (by decide)) hG g_ladder_of_round_gaps q_round_gaps K_round_gaps b_round_gaps (da_cons (d_nm n_ladder_of_2) da_nil) (lenC lenN) (nd_round_gaps)))
    (db_one (ds_ret (de_tup (da_cons (d_str (u := .none) g_ladder_of_UNEVEN k_UNEVEN (nd_UNEVEN)) (da_cons (de_callTy call_tuple' g_ladder_of_tuple z_tuple bt_tuple (da_cons (de_op op_add' (d_nm n_ladder_of_1) (de_of (df_lst (da_cons (de_tup (da_cons (d_nm n_ladder_of_2) (da_cons de_none da_nil))) da_nil)))) da_nil)) (da_cons (de_tup (da_cons (de_callB (call_min' rfl) g_ladder_of_min z_min bt_min (da_cons (d_nm n_ladder_of_4) da_nil)) (da_cons (de_callB (call_max' rfl) g_ladder_of_max z_max bt_max (da_cons (d_nm n_ladder_of_4) da_nil)) da_nil))) da_nil))))))) db_nil)
    (db_cons (d_app n_ladder_of_1 (de_tup (da_cons (d_nm n_ladder_of_2) (da_cons (de_ix ix' (d_nm n_ladder_of_3) de_int (fun _ _ => rfl)) da_nil))))
    (db_one (d_set S_ladder_of.nd l_ladder_of_2 (fun _ => rfl) (de_ix ix' (d_nm n_ladder_of_3) de_int (fun _ _ => rfl))))))))
    (db_one (ds_ret (de_tup (da_cons (d_str (u := .none) g_ladder_of_EVEN k_EVEN (nd_EVEN)) (da_cons (de_callTy call_tuple' g_ladder_of_tuple z_tuple bt_tuple (da_cons (de_op op_add' (d_nm n_ladder_of_1) (de_of (df_lst (da_cons (de_tup (da_cons (d_nm n_ladder_of_2) (da_cons de_none da_nil))) da_nil)))) da_nil)) da_nil))))))))
abbrev N_ladder : List Str := ["row"]
theorem S_ladder : FnScope N_ladder ["row"] (defScope s_ladder) := ⟨rfl, rfl, rfl, by decide +kernel, rfl, by decide +kernel, by decide +kernel⟩
theorem n_ladder_0 : NmOk N_ladder (defScope s_ladder) 0 "row" := nmB_ok (by decide +kernel)
theorem g_ladder_ladder_of : (defScope s_ladder).names.lookup ("ladder_of" : Str) = some .globalImplicit := by decide +kernel
theorem g_ladder_check_row : (defScope s_ladder).names.lookup ("check_row" : Str) = some .globalImplicit := by decide +kernel
def Ok_ladder (P : Program) (w : World) (K : PySem.W.Frag) (mg : Str → Option Value) (base : Heap) : Prop := ∃ f fd, mg ("ladder" : Str) = some (.ref f) ∧ PySem.W.keepIn K (.ref f) = true ∧ Binds K fd ["row"] [] ∧ FnG P w K mg base 5 f fd ["row"] (spD K 1 m_ladder)
theorem ok_ladder (T : Top K mg) (h_ladder_of : Ok_ladder_of P w K mg base) (h_check_row : Ok_check_row P w K mg base) : Ok_ladder P w K mg base := by
  obtain ⟨f, fd, hq, F⟩ := T.d_ladder
  obtain ⟨f_ladder_of, fd_ladder_of, q_ladder_of, K_ladder_of, b_ladder_of, G_ladder_of⟩ := h_ladder_of
  obtain ⟨f_check_row, fd_check_row, q_check_row, K_check_row, b_check_row, G_check_row⟩ := h_check_row
  refine ⟨f, fd, hq, F.kp, F.bindsN (fun _ _ _ _ _ _ us hl => match us, hl with | [_], _ => rfl), ?_⟩
  refine fn_D F S_ladder fun cdv A outer s H hr hG => ?_
  exact (db_cons (ds_expr (de_call G_check_row (hr.mono (by decide)) hG g_ladder_check_row q_check_row K_check_row b_check_row (da_cons (d_nm n_ladder_0) da_nil) (lenC lenN) (nd_check_row)))
    (db_one (ds_ret (de_call G_ladder_of (hr.mono (by decide)) hG g_ladder_ladder_of q_ladder_of K_ladder_of b_ladder_of (da_cons (d_nm n_ladder_0) da_nil) (lenC lenN) (nd_ladder_of)))))
abbrev N_is_line : List Str := ["thing"]
theorem S_is_line : FnScope N_is_line ["thing"] (defScope s_is_line) := ⟨rfl, rfl, rfl, by decide +kernel, rfl, by decide +kernel, by decide +kernel⟩
theorem g_is_line_ZERO : (defScope s_is_line).names.lookup ("ZERO" : Str) = some .globalImplicit := by decide +kernel
theorem n_is_line_0 : NmOk N_is_line (defScope s_is_line) 0 "thing" := nmB_ok (by decide +kernel)
theorem g_is_line_less : (defScope s_is_line).names.lookup ("less" : Str) = some .globalImplicit := by decide +kernel
theorem g_is_line_ONE : (defScope s_is_line).names.lookup ("ONE" : Str) = some .globalImplicit := by decide +kernel
theorem g_is_line_is_tuple_of : (defScope s_is_line).names.lookup ("is_tuple_of" : Str) = some .globalImplicit := by decide +kernel
theorem g_is_line_is_fraction : (defScope s_is_line).names.lookup ("is_fraction" : Str) = some .globalImplicit := by decide +kernel
def Ok_is_line (P : Program) (w : World) (K : PySem.W.Frag) (mg : Str → Option Value) (base : Heap) : Prop := ∃ f fd, mg ("is_line" : Str) = some (.ref f) ∧ PySem.W.keepIn K (.ref f) = true ∧ Binds K fd ["thing"] [] ∧ FnG P w K mg base 3 f fd ["thing"] (spD K 1 m_is_line)
theorem ok_is_line (T : Top K mg) (h_less : Ok_less P w K mg base) (h_is_tuple_of : Ok_is_tuple_of P w K mg base) (h_is_fraction : Ok_is_fraction P w K mg base) : Ok_is_line P w K mg base := by
  obtain ⟨f, fd, hq, F⟩ := T.d_is_line
  obtain ⟨f_less, fd_less, q_less, K_less, b_less, G_less⟩ := h_less
  obtain ⟨f_is_tuple_of, fd_is_tuple_of, q_is_tuple_of, K_is_tuple_of, b_is_tuple_of, G_is_tuple_of⟩ := h_is_tuple_of
  obtain ⟨f_is_fraction, fd_is_fraction, q_is_fraction, K_is_fraction, b_is_fraction, G_is_fraction⟩ := h_is_fraction
  obtain ⟨v_ZERO, k_ZERO, K_ZERO⟩ := T.k_ZERO
  obtain ⟨v_ONE, k_ONE, K_ONE⟩ := T.k_ONE
  refine ⟨f, fd, hq, F.kp, F.bindsN (fun _ _ _ _ _ _ us hl => match us, hl with | [_], _ => rfl), ?_⟩
  refine fn_D F S_is_line fun cdv A outer s H hr hG => ?_
  exact (db_cons (ds_if (dt_w (dw_or (dt_not (dt_val (de_call G_is_tuple_of (hr.mono (by decide)) hG g_is_line_is_tuple_of q_is_tuple_of K_is_tuple_of b_is_tuple_of (da_cons (d_nm n_is_line_0) (da_cons de_int da_nil)) (lenC (lenC lenN)) (nd_is_tuple_of)))) (dw_or (dt_not (dt_val (de_call G_is_fraction (hr.mono (by decide)) hG g_is_line_is_fraction q_is_fraction K_is_fraction b_is_fraction (da_cons (de_ix ix' (d_nm n_is_line_0) de_int (fun _ _ => rfl)) da_nil) (lenC lenN) (nd_is_fraction)))) (dw_or1 (dt_not (dt_val (de_call G_is_fraction (hr.mono (by decide)) hG g_is_line_is_fraction q_is_fraction K_is_fraction b_is_fraction (da_cons (de_ix ix' (d_nm n_is_line_0) de_int (fun _ _ => rfl)) da_nil) (lenC lenN) (nd_is_fraction)))))))) (db_one (ds_ret de_bool)) db_nil)
    (db_cons (ds_if (dt_w (dw_or (dt_val (de_call G_less (hr.mono (by decide)) hG g_is_line_less q_less K_less b_less (da_cons (de_ix ix' (d_nm n_is_line_0) de_int (fun _ _ => rfl)) (da_cons (d_gref g_is_line_ZERO k_ZERO (nd_ZERO) K_ZERO) da_nil)) (lenC (lenC lenN)) (nd_less))) (dw_or1 (dt_val (de_call G_less (hr.mono (by decide)) hG g_is_line_less q_less K_less b_less (da_cons (d_gref g_is_line_ONE k_ONE (nd_ONE) K_ONE) (da_cons (de_ix ix' (d_nm n_is_line_0) de_int (fun _ _ => rfl)) da_nil)) (lenC (lenC lenN)) (nd_less)))))) (db_one (ds_ret de_bool)) db_nil)
    (db_one (ds_ret (de_and (de_not (de_call G_less (hr.mono (by decide)) hG g_is_line_less q_less K_less b_less (da_cons (de_ix ix' (d_nm n_is_line_0) de_int (fun _ _ => rfl)) (da_cons (d_gref g_is_line_ZERO k_ZERO (nd_ZERO) K_ZERO) da_nil)) (lenC (lenC lenN)) (nd_less))) (de_one (de_call G_less (hr.mono (by decide)) hG g_is_line_less q_less K_less b_less (da_cons (de_ix ix' (d_nm n_is_line_0) de_int (fun _ _ => rfl)) (da_cons (d_gref g_is_line_ONE k_ONE (nd_ONE) K_ONE) da_nil)) (lenC (lenC lenN)) (nd_less))))))))
abbrev N_is_rule : List Str := ["thing"]
theorem S_is_rule : FnScope N_is_rule ["thing"] (defScope s_is_rule) := ⟨rfl, rfl, rfl, by decide +kernel, rfl, by decide +kernel, by decide +kernel⟩
theorem n_is_rule_0 : NmOk N_is_rule (defScope s_is_rule) 0 "thing" := nmB_ok (by decide +kernel)
theorem g_is_rule_is_line : (defScope s_is_rule).names.lookup ("is_line" : Str) = some .globalImplicit := by decide +kernel
theorem g_is_rule_MOST_BOTTOM : (defScope s_is_rule).names.lookup ("MOST_BOTTOM" : Str) = some .globalImplicit := by decide +kernel
def Ok_is_rule (P : Program) (w : World) (K : PySem.W.Frag) (mg : Str → Option Value) (base : Heap) : Prop := ∃ f fd, mg ("is_rule" : Str) = some (.ref f) ∧ PySem.W.keepIn K (.ref f) = true ∧ Binds K fd ["thing"] [] ∧ FnG P w K mg base 4 f fd ["thing"] (spD K 1 m_is_rule)
theorem ok_is_rule (T : Top K mg) (h_is_line : Ok_is_line P w K mg base) : Ok_is_rule P w K mg base := by
  obtain ⟨f, fd, hq, F⟩ := T.d_is_rule
  obtain ⟨f_is_line, fd_is_line, q_is_line, K_is_line, b_is_line, G_is_line⟩ := h_is_line
  obtain ⟨v_MOST_BOTTOM, k_MOST_BOTTOM⟩ := T.k_MOST_BOTTOM
  refine ⟨f, fd, hq, F.kp, F.bindsN (fun _ _ _ _ _ _ us hl => match us, hl with | [_], _ => rfl), ?_⟩
  refine fn_D F S_is_rule fun cdv A outer s H hr hG => ?_
  exact (db_one (ds_ret (de_and (de_call G_is_line (hr.mono (by decide)) hG g_is_rule_is_line q_is_line K_is_line b_is_line (da_cons (d_nm n_is_rule_0) da_nil) (lenC lenN) (nd_is_line)) (de_and (de_cmp op_le' (de_ix ix' (de_ix ix' (d_nm n_is_rule_0) de_int (fun _ _ => rfl)) de_int (fun _ _ => rfl)) (d_gint g_is_rule_MOST_BOTTOM k_MOST_BOTTOM (nd_MOST_BOTTOM)) (nomark _)) (de_one (de_cmp op_le' (de_ix ix' (de_ix ix' (d_nm n_is_rule_0) de_int (fun _ _ => rfl)) de_int (fun _ _ => rfl)) (d_gint g_is_rule_MOST_BOTTOM k_MOST_BOTTOM (nd_MOST_BOTTOM)) (nomark _)))))))
abbrev N_check_rule : List Str := ["rule"]
theorem S_check_rule : FnScope N_check_rule ["rule"] (defScope s_check_rule) := ⟨rfl, rfl, rfl, by decide +kernel, rfl, by decide +kernel, by decide +kernel⟩
theorem n_check_rule_0 : NmOk N_check_rule (defScope s_check_rule) 0 "rule" := nmB_ok (by decide +kernel)
theorem g_check_rule_is_rule : (defScope s_check_rule).names.lookup ("is_rule" : Str) = some .globalImplicit := by decide +kernel
def Ok_check_rule (P : Program) (w : World) (K : PySem.W.Frag) (mg : Str → Option Value) (base : Heap) : Prop := ∃ f fd, mg ("check_rule" : Str) = some (.ref f) ∧ PySem.W.keepIn K (.ref f) = true ∧ Binds K fd ["rule"] [] ∧ FnG P w K mg base 5 f fd ["rule"] (spD K 1 m_check_rule)
theorem ok_check_rule (T : Top K mg) (h_is_rule : Ok_is_rule P w K mg base) : Ok_check_rule P w K mg base := by
  obtain ⟨f, fd, hq, F⟩ := T.d_check_rule
  obtain ⟨f_is_rule, fd_is_rule, q_is_rule, K_is_rule, b_is_rule, G_is_rule⟩ := h_is_rule
  refine ⟨f, fd, hq, F.kp, F.bindsN (fun _ _ _ _ _ _ us hl => match us, hl with | [_], _ => rfl), ?_⟩
  refine fn_D F S_check_rule fun cdv A outer s H hr hG => ?_
  exact (db_one (ds_if (dt_not (dt_val (de_call G_is_rule (hr.mono (by decide)) hG g_check_rule_is_rule q_is_rule K_is_rule b_is_rule (da_cons (d_nm n_check_rule_0) da_nil) (lenC lenN) (nd_is_rule)))) (db_one ds_never) db_nil))
abbrev N_total_to : List Str := ["rule", "n", "step", "start"]
theorem S_total_to : FnScope N_total_to ["rule", "n"] (defScope s_total_to) := ⟨rfl, rfl, rfl, by decide +kernel, rfl, by decide +kernel, by decide +kernel⟩
theorem n_total_to_1 : NmOk N_total_to (defScope s_total_to) 1 "n" := nmB_ok (by decide +kernel)
theorem n_total_to_2 : NmOk N_total_to (defScope s_total_to) 2 "step" := nmB_ok (by decide +kernel)
theorem n_total_to_3 : NmOk N_total_to (defScope s_total_to) 3 "start" := nmB_ok (by decide +kernel)
theorem n_total_to_0 : NmOk N_total_to (defScope s_total_to) 0 "rule" := nmB_ok (by decide +kernel)
theorem l_total_to_3 : LcOk N_total_to (defScope s_total_to) 3 "start" := lcB_ok (by decide +kernel)
theorem l_total_to_2 : LcOk N_total_to (defScope s_total_to) 2 "step" := lcB_ok (by decide +kernel)
def Ok_total_to (P : Program) (w : World) (K : PySem.W.Frag) (mg : Str → Option Value) (base : Heap) : Prop := ∃ f fd, mg ("total_to" : Str) = some (.ref f) ∧ PySem.W.keepIn K (.ref f) = true ∧ Binds K fd ["rule", "n"] [] ∧ FnG P w K mg base 1 f fd ["rule", "n"] (spD K 2 m_total_to)
theorem ok_total_to (T : Top K mg) : Ok_total_to P w K mg base := by
  obtain ⟨f, fd, hq, F⟩ := T.d_total_to
  refine ⟨f, fd, hq, F.kp, F.bindsN (fun _ _ _ _ _ _ us hl => match us, hl with | [_, _], _ => rfl), ?_⟩
  refine fn_D F S_total_to fun cdv A outer s H hr hG => ?_
  exact (db_cons (ds_asg (d_nm n_total_to_0) (dg_tup rfl (dgs_cons (d_gnm S_total_to.nd l_total_to_2 (fun _ => rfl)) (dgs_cons (d_gnm S_total_to.nd l_total_to_3 (fun _ => rfl)) dgs_nil))))
    (db_one (ds_ret (de_op op_div' (de_op op_add' (de_op op_mul' (de_op op_mul' (d_nm n_total_to_1) (de_ix ix' (d_nm n_total_to_2) de_int (fun _ _ => rfl))) (de_ix ix' (d_nm n_total_to_3) de_int (fun _ _ => rfl))) (de_op op_mul' (de_ix ix' (d_nm n_total_to_3) de_int (fun _ _ => rfl)) (de_ix ix' (d_nm n_total_to_2) de_int (fun _ _ => rfl)))) (de_op op_mul' (de_ix ix' (d_nm n_total_to_2) de_int (fun _ _ => rfl)) (de_ix ix' (d_nm n_total_to_3) de_int (fun _ _ => rfl)))))))
abbrev N_row_of : List Str := ["rule", "first", "length", "totals", "day"]
theorem S_row_of : FnScope N_row_of ["rule", "first", "length"] (defScope s_row_of) := ⟨rfl, rfl, rfl, by decide +kernel, rfl, by decide +kernel, by decide +kernel⟩
abbrev c_row_of_1 : Scope := ({ kind := .function, names := [(Str.ofString ".0", .local), (Str.ofString "day", .local), (Str.ofString "DUTY", .globalImplicit), (Str.ofString "FREE", .globalImplicit), (Str.ofString "totals", .free)], isGenerator := false, isCoroutine := false, more := [] } : Scope)
abbrev c_row_of_2 : Scope := ({ kind := .function, names := [(Str.ofString ".0", .local), (Str.ofString "day", .local), (Str.ofString "total_to", .globalImplicit), (Str.ofString "first", .free), (Str.ofString "rule", .free)], isGenerator := false, isCoroutine := false, more := [] } : Scope)
theorem n_row_of_2 : NmOk N_row_of (defScope s_row_of) 2 "length" := nmB_ok (by decide +kernel)
theorem g_row_of_range : (defScope s_row_of).names.lookup ("range" : Str) = some .globalImplicit := by decide +kernel
theorem l_row_of_b1_4 : LcOk N_row_of (relS c_row_of_1 (defScope s_row_of)) 4 "day" := lcB_ok (by decide +kernel)
theorem o_row_of_b1_4 : (relS c_row_of_1 (defScope s_row_of)).names.lookup ("day" : Str) = some .local := by decide +kernel
theorem n_row_of_b1_4 : NmOk N_row_of (relS c_row_of_1 (defScope s_row_of)) 4 "day" := nmB_ok (by decide +kernel)
theorem n_row_of_b1_3 : NmOk N_row_of (relS c_row_of_1 (defScope s_row_of)) 3 "totals" := nmB_ok (by decide +kernel)
theorem g_row_of_b1_DUTY : (relS c_row_of_1 (defScope s_row_of)).names.lookup ("DUTY" : Str) = some .globalImplicit := by decide +kernel
theorem g_row_of_b1_FREE : (relS c_row_of_1 (defScope s_row_of)).names.lookup ("FREE" : Str) = some .globalImplicit := by decide +kernel
theorem l_row_of_b2_4 : LcOk N_row_of (relS c_row_of_2 (defScope s_row_of)) 4 "day" := lcB_ok (by decide +kernel)
theorem o_row_of_b2_4 : (relS c_row_of_2 (defScope s_row_of)).names.lookup ("day" : Str) = some .local := by decide +kernel
theorem n_row_of_b2_1 : NmOk N_row_of (relS c_row_of_2 (defScope s_row_of)) 1 "first" := nmB_ok (by decide +kernel)
theorem n_row_of_b2_4 : NmOk N_row_of (relS c_row_of_2 (defScope s_row_of)) 4 "day" := nmB_ok (by decide +kernel)
theorem n_row_of_b2_0 : NmOk N_row_of (relS c_row_of_2 (defScope s_row_of)) 0 "rule" := nmB_ok (by decide +kernel)
theorem g_row_of_b2_total_to : (relS c_row_of_2 (defScope s_row_of)).names.lookup ("total_to" : Str) = some .globalImplicit := by decide +kernel
theorem l_row_of_3 : LcOk N_row_of (defScope s_row_of) 3 "totals" := lcB_ok (by decide +kernel)
def Ok_row_of (P : Program) (w : World) (K : PySem.W.Frag) (mg : Str → Option Value) (base : Heap) : Prop := ∃ f fd, mg ("row_of" : Str) = some (.ref f) ∧ PySem.W.keepIn K (.ref f) = true ∧ Binds K fd ["rule", "first", "length"] [] ∧ FnG P w K mg base 2 f fd ["rule", "first", "length"] (spD K 3 m_row_of)
theorem ok_row_of (T : Top K mg) (h_total_to : Ok_total_to P w K mg base) : Ok_row_of P w K mg base := by
  obtain ⟨f, fd, hq, F⟩ := T.d_row_of
  obtain ⟨f_total_to, fd_total_to, q_total_to, K_total_to, b_total_to, G_total_to⟩ := h_total_to
  have z_range := T.z_range
  obtain ⟨v_DUTY, k_DUTY⟩ := T.k_DUTY
  obtain ⟨v_FREE, k_FREE⟩ := T.k_FREE
  refine ⟨f, fd, hq, F.kp, F.bindsN (fun _ _ _ _ _ _ us hl => match us, hl with | [_, _, _], _ => rfl), ?_⟩
  refine fn_D F S_row_of fun cdv A outer s H hr hG => ?_
  exact (db_cons (d_set S_row_of.nd l_row_of_3 (fun _ => rfl) (de_of (df_lc (own := [("day", 4)]) rfl S_row_of.nd (di_rg1 g_row_of_range z_range (da_cons (de_op op_add' (d_nm n_row_of_2) de_int) da_nil)) (blkOk_by (N := N_row_of) (sc := defScope s_row_of) (by decide +kernel)) (fun _ _ _ _ _ => (d_gcnm S_row_of.nd l_row_of_b2_4 o_row_of_b2_4 (by decide))) (fun _ _ _ _ _ => dts_nil) (fun _ _ _ _ _ => (de_call G_total_to (hr.mono (by decide)) hG g_row_of_b2_total_to q_total_to K_total_to b_total_to (da_cons (d_nm n_row_of_b2_0) (da_cons (de_op op_add' (d_nm n_row_of_b2_1) (d_nm n_row_of_b2_4)) da_nil)) (lenC (lenC lenN)) (nd_total_to))))))
    (db_one (ds_ret (de_meth PySem.F.plainAttrs_str PySem.F.slot_str_join PySem.F.type_str_join mt_join' de_str (da_cons (de_of (df_lc (own := [("day", 4)]) rfl S_row_of.nd (di_rg1 g_row_of_range z_range (da_cons (d_nm n_row_of_2) da_nil)) (blkOk_by (N := N_row_of) (sc := defScope s_row_of) (by decide +kernel)) (fun _ _ _ _ _ => (d_gcnm S_row_of.nd l_row_of_b1_4 o_row_of_b1_4 (by decide))) (fun _ _ _ _ _ => dts_nil) (fun _ _ _ _ _ => (de_if (dt_cmp op_gt' (de_ix ix' (d_nm n_row_of_b1_3) (de_op op_add' (d_nm n_row_of_b1_4) de_int) (fun _ _ => rfl)) (de_ix ix' (d_nm n_row_of_b1_3) (d_nm n_row_of_b1_4) (fun _ _ => rfl)) (nomark _)) (d_str (u := .none) g_row_of_b1_DUTY k_DUTY (nd_DUTY)) (d_str (u := .none) g_row_of_b1_FREE k_FREE (nd_FREE)))))) da_nil) ty_join))))
abbrev N_made : List Str := ["rule", "first", "length"]
theorem S_made : FnScope N_made ["rule", "first", "length"] (defScope s_made) := ⟨rfl, rfl, rfl, by decide +kernel, rfl, by decide +kernel, by decide +kernel⟩
theorem n_made_2 : NmOk N_made (defScope s_made) 2 "length" := nmB_ok (by decide +kernel)
theorem n_made_1 : NmOk N_made (defScope s_made) 1 "first" := nmB_ok (by decide +kernel)
theorem n_made_0 : NmOk N_made (defScope s_made) 0 "rule" := nmB_ok (by decide +kernel)
theorem g_made_row_of : (defScope s_made).names.lookup ("row_of" : Str) = some .globalImplicit := by decide +kernel
theorem g_made_MOST_DAY : (defScope s_made).names.lookup ("MOST_DAY" : Str) = some .globalImplicit := by decide +kernel
theorem g_made_is_within : (defScope s_made).names.lookup ("is_within" : Str) = some .globalImplicit := by decide +kernel
theorem g_made_MOST_DAYS : (defScope s_made).names.lookup ("MOST_DAYS" : Str) = some .globalImplicit := by decide +kernel
theorem g_made_check_rule : (defScope s_made).names.lookup ("check_rule" : Str) = some .globalImplicit := by decide +kernel
def Ok_made (P : Program) (w : World) (K : PySem.W.Frag) (mg : Str → Option Value) (base : Heap) : Prop := ∃ f fd, mg ("made" : Str) = some (.ref f) ∧ PySem.W.keepIn K (.ref f) = true ∧ Binds K fd ["rule", "first", "length"] [] ∧ FnG P w K mg base 6 f fd ["rule", "first", "length"] (spD K 3 m_made)
theorem ok_made (T : Top K mg) (h_row_of : Ok_row_of P w K mg base) (h_is_within : Ok_is_within P w K mg base) (h_check_rule : Ok_check_rule P w K mg base) : Ok_made P w K mg base := by
  obtain ⟨f, fd, hq, F⟩ := T.d_made
  obtain ⟨f_row_of, fd_row_of, q_row_of, K_row_of, b_row_of, G_row_of⟩ := h_row_of
  obtain ⟨f_is_within, fd_is_within, q_is_within, K_is_within, b_is_within, G_is_within⟩ := h_is_within
  obtain ⟨f_check_rule, fd_check_rule, q_check_rule, K_check_rule, b_check_rule, G_check_rule⟩ := h_check_rule
  obtain ⟨v_MOST_DAY, k_MOST_DAY⟩ := T.k_MOST_DAY
  obtain ⟨v_MOST_DAYS, k_MOST_DAYS⟩ := T.k_MOST_DAYS
  refine ⟨f, fd, hq, F.kp, F.bindsN (fun _ _ _ _ _ _ us hl => match us, hl with | [_, _, _], _ => rfl), ?_⟩
  refine fn_D F S_made fun cdv A outer s H hr hG => ?_
  exact (db_cons (ds_expr (de_call G_check_rule (hr.mono (by decide)) hG g_made_check_rule q_check_rule K_check_rule b_check_rule (da_cons (d_nm n_made_0) da_nil) (lenC lenN) (nd_check_rule)))
    (db_cons (ds_if (dt_w (dw_or (dt_not (dt_val (de_call G_is_within (hr.mono (by decide)) hG g_made_is_within q_is_within K_is_within b_is_within (da_cons (d_nm n_made_1) (da_cons de_int (da_cons (d_gint g_made_MOST_DAY k_MOST_DAY (nd_MOST_DAY)) da_nil))) (lenC (lenC (lenC lenN))) (nd_is_within)))) (dw_or1 (dt_not (dt_val (de_call G_is_within (hr.mono (by decide)) hG g_made_is_within q_is_within K_is_within b_is_within (da_cons (d_nm n_made_2) (da_cons de_int (da_cons (d_gint g_made_MOST_DAYS k_MOST_DAYS (nd_MOST_DAYS)) da_nil))) (lenC (lenC (lenC lenN))) (nd_is_within))))))) (db_one ds_never) db_nil)
    (db_one (ds_ret (de_call G_row_of (hr.mono (by decide)) hG g_made_row_of q_row_of K_row_of b_row_of (da_cons (d_nm n_made_0) (da_cons (d_nm n_made_1) (da_cons (d_nm n_made_2) da_nil))) (lenC (lenC (lenC lenN))) (nd_row_of))))))
abbrev N_nth_duty : List Str := ["rule", "k", "step", "start", "top", "bottom"]
theorem S_nth_duty : FnScope N_nth_duty ["rule", "k"] (defScope s_nth_duty) := ⟨rfl, rfl, rfl, by decide +kernel, rfl, by decide +kernel, by decide +kernel⟩
theorem n_nth_duty_4 : NmOk N_nth_duty (defScope s_nth_duty) 4 "top" := nmB_ok (by decide +kernel)
theorem n_nth_duty_5 : NmOk N_nth_duty (defScope s_nth_duty) 5 "bottom" := nmB_ok (by decide +kernel)
theorem n_nth_duty_2 : NmOk N_nth_duty (defScope s_nth_duty) 2 "step" := nmB_ok (by decide +kernel)
theorem n_nth_duty_3 : NmOk N_nth_duty (defScope s_nth_duty) 3 "start" := nmB_ok (by decide +kernel)
theorem l_nth_duty_5 : LcOk N_nth_duty (defScope s_nth_duty) 5 "bottom" := lcB_ok (by decide +kernel)
theorem n_nth_duty_1 : NmOk N_nth_duty (defScope s_nth_duty) 1 "k" := nmB_ok (by decide +kernel)
theorem l_nth_duty_4 : LcOk N_nth_duty (defScope s_nth_duty) 4 "top" := lcB_ok (by decide +kernel)
theorem g_nth_duty_ZERO : (defScope s_nth_duty).names.lookup ("ZERO" : Str) = some .globalImplicit := by decide +kernel
theorem n_nth_duty_0 : NmOk N_nth_duty (defScope s_nth_duty) 0 "rule" := nmB_ok (by decide +kernel)
theorem l_nth_duty_3 : LcOk N_nth_duty (defScope s_nth_duty) 3 "start" := lcB_ok (by decide +kernel)
theorem l_nth_duty_2 : LcOk N_nth_duty (defScope s_nth_duty) 2 "step" := lcB_ok (by decide +kernel)
theorem g_nth_duty_MOST_DAY : (defScope s_nth_duty).names.lookup ("MOST_DAY" : Str) = some .globalImplicit := by decide +kernel
theorem g_nth_duty_is_within : (defScope s_nth_duty).names.lookup ("is_within" : Str) = some .globalImplicit := by decide +kernel
theorem g_nth_duty_check_rule : (defScope s_nth_duty).names.lookup ("check_rule" : Str) = some .globalImplicit := by decide +kernel
def Ok_nth_duty (P : Program) (w : World) (K : PySem.W.Frag) (mg : Str → Option Value) (base : Heap) : Prop := ∃ f fd, mg ("nth_duty" : Str) = some (.ref f) ∧ PySem.W.keepIn K (.ref f) = true ∧ Binds K fd ["rule", "k"] [] ∧ FnG P w K mg base 6 f fd ["rule", "k"] (spD K 2 m_nth_duty)
theorem ok_nth_duty (T : Top K mg) (h_is_within : Ok_is_within P w K mg base) (h_check_rule : Ok_check_rule P w K mg base) : Ok_nth_duty P w K mg base := by
  obtain ⟨f, fd, hq, F⟩ := T.d_nth_duty
  obtain ⟨f_is_within, fd_is_within, q_is_within, K_is_within, b_is_within, G_is_within⟩ := h_is_within
  obtain ⟨f_check_rule, fd_check_rule, q_check_rule, K_check_rule, b_check_rule, G_check_rule⟩ := h_check_rule
  obtain ⟨v_ZERO, k_ZERO, K_ZERO⟩ := T.k_ZERO
  obtain ⟨v_MOST_DAY, k_MOST_DAY⟩ := T.k_MOST_DAY
  refine ⟨f, fd, hq, F.kp, F.bindsN (fun _ _ _ _ _ _ us hl => match us, hl with | [_, _], _ => rfl), ?_⟩
  refine fn_D F S_nth_duty fun cdv A outer s H hr hG => ?_
  exact (db_cons (ds_expr (de_call G_check_rule (hr.mono (by decide)) hG g_nth_duty_check_rule q_check_rule K_check_rule b_check_rule (da_cons (d_nm n_nth_duty_0) da_nil) (lenC lenN) (nd_check_rule)))
    (db_cons (ds_if (dt_not (dt_val (de_call G_is_within (hr.mono (by decide)) hG g_nth_duty_is_within q_is_within K_is_within b_is_within (da_cons (d_nm n_nth_duty_1) (da_cons de_int (da_cons (d_gint g_nth_duty_MOST_DAY k_MOST_DAY (nd_MOST_DAY)) da_nil))) (lenC (lenC (lenC lenN))) (nd_is_within)))) (db_one ds_never) db_nil)
    (db_cons (ds_asg (d_nm n_nth_duty_0) (dg_tup rfl (dgs_cons (d_gnm S_nth_duty.nd l_nth_duty_2 (fun _ => rfl)) (dgs_cons (d_gnm S_nth_duty.nd l_nth_duty_3 (fun _ => rfl)) dgs_nil))))
    (db_cons (ds_if (dt_cmp (op_eq' (hu64 hr)) (d_nm n_nth_duty_2) (d_gref g_nth_duty_ZERO k_ZERO (nd_ZERO) K_ZERO) (nomark _)) (db_one ds_never) db_nil)
    (db_cons (d_set S_nth_duty.nd l_nth_duty_4 (fun _ => rfl) (de_op op_mul' (de_op op_sub' (de_op op_mul' (de_op op_add' (d_nm n_nth_duty_1) de_int) (de_ix ix' (d_nm n_nth_duty_3) de_int (fun _ _ => rfl))) (de_ix ix' (d_nm n_nth_duty_3) de_int (fun _ _ => rfl))) (de_ix ix' (d_nm n_nth_duty_2) de_int (fun _ _ => rfl))))
    (db_cons (d_set S_nth_duty.nd l_nth_duty_5 (fun _ => rfl) (de_op op_mul' (de_ix ix' (d_nm n_nth_duty_2) de_int (fun _ _ => rfl)) (de_ix ix' (d_nm n_nth_duty_3) de_int (fun _ _ => rfl))))
    (db_one (ds_ret (de_op op_sub' (de_un un_neg' (de_op op_div' (de_un un_neg' (d_nm n_nth_duty_4)) (d_nm n_nth_duty_5))) de_int)))))))))
abbrev N_form_of : List Str := ["rule", "step", "start"]
theorem S_form_of : FnScope N_form_of ["rule"] (defScope s_form_of) := ⟨rfl, rfl, rfl, by decide +kernel, rfl, by decide +kernel, by decide +kernel⟩
theorem n_form_of_1 : NmOk N_form_of (defScope s_form_of) 1 "step" := nmB_ok (by decide +kernel)
theorem n_form_of_2 : NmOk N_form_of (defScope s_form_of) 2 "start" := nmB_ok (by decide +kernel)
theorem n_form_of_0 : NmOk N_form_of (defScope s_form_of) 0 "rule" := nmB_ok (by decide +kernel)
theorem l_form_of_2 : LcOk N_form_of (defScope s_form_of) 2 "start" := lcB_ok (by decide +kernel)
theorem l_form_of_1 : LcOk N_form_of (defScope s_form_of) 1 "step" := lcB_ok (by decide +kernel)
def Ok_form_of (P : Program) (w : World) (K : PySem.W.Frag) (mg : Str → Option Value) (base : Heap) : Prop := ∃ f fd, mg ("form_of" : Str) = some (.ref f) ∧ PySem.W.keepIn K (.ref f) = true ∧ Binds K fd ["rule"] [] ∧ FnG P w K mg base 1 f fd ["rule"] (spD K 1 m_form_of)
theorem ok_form_of (T : Top K mg) : Ok_form_of P w K mg base := by
  obtain ⟨f, fd, hq, F⟩ := T.d_form_of
  refine ⟨f, fd, hq, F.kp, F.bindsN (fun _ _ _ _ _ _ us hl => match us, hl with | [_], _ => rfl), ?_⟩
  refine fn_D F S_form_of fun cdv A outer s H hr hG => ?_
  exact (db_cons (ds_asg (d_nm n_form_of_0) (dg_tup rfl (dgs_cons (d_gnm S_form_of.nd l_form_of_1 (fun _ => rfl)) (dgs_cons (d_gnm S_form_of.nd l_form_of_2 (fun _ => rfl)) dgs_nil))))
    (db_one (ds_ret (de_tup (da_cons (de_ix ix' (d_nm n_form_of_1) de_int (fun _ _ => rfl)) (da_cons (de_ix ix' (d_nm n_form_of_1) de_int (fun _ _ => rfl)) (da_cons (de_op op_div' (de_op op_mul' (de_ix ix' (d_nm n_form_of_1) de_int (fun _ _ => rfl)) (de_ix ix' (d_nm n_form_of_2) de_int (fun _ _ => rfl))) (de_ix ix' (d_nm n_form_of_2) de_int (fun _ _ => rfl))) da_nil)))))))
abbrev N_normal : List Str := ["rule"]
theorem S_normal : FnScope N_normal ["rule"] (defScope s_normal) := ⟨rfl, rfl, rfl, by decide +kernel, rfl, by decide +kernel, by decide +kernel⟩
theorem n_normal_0 : NmOk N_normal (defScope s_normal) 0 "rule" := nmB_ok (by decide +kernel)
theorem g_normal_form_of : (defScope s_normal).names.lookup ("form_of" : Str) = some .globalImplicit := by decide +kernel
theorem g_normal_check_rule : (defScope s_normal).names.lookup ("check_rule" : Str) = some .globalImplicit := by decide +kernel
def Ok_normal (P : Program) (w : World) (K : PySem.W.Frag) (mg : Str → Option Value) (base : Heap) : Prop := ∃ f fd, mg ("normal" : Str) = some (.ref f) ∧ PySem.W.keepIn K (.ref f) = true ∧ Binds K fd ["rule"] [] ∧ FnG P w K mg base 6 f fd ["rule"] (spD K 1 m_normal)
theorem ok_normal (T : Top K mg) (h_form_of : Ok_form_of P w K mg base) (h_check_rule : Ok_check_rule P w K mg base) : Ok_normal P w K mg base := by
  obtain ⟨f, fd, hq, F⟩ := T.d_normal
  obtain ⟨f_form_of, fd_form_of, q_form_of, K_form_of, b_form_of, G_form_of⟩ := h_form_of
  obtain ⟨f_check_rule, fd_check_rule, q_check_rule, K_check_rule, b_check_rule, G_check_rule⟩ := h_check_rule
  refine ⟨f, fd, hq, F.kp, F.bindsN (fun _ _ _ _ _ _ us hl => match us, hl with | [_], _ => rfl), ?_⟩
  refine fn_D F S_normal fun cdv A outer s H hr hG => ?_
  exact (db_cons (ds_expr (de_call G_check_rule (hr.mono (by decide)) hG g_normal_check_rule q_check_rule K_check_rule b_check_rule (da_cons (d_nm n_normal_0) da_nil) (lenC lenN) (nd_check_rule)))
    (db_one (ds_ret (de_call G_form_of (hr.mono (by decide)) hG g_normal_form_of q_form_of K_form_of b_form_of (da_cons (d_nm n_normal_0) da_nil) (lenC lenN) (nd_form_of)))))
abbrev N_made_of : List Str := ["form"]
theorem S_made_of : FnScope N_made_of ["form"] (defScope s_made_of) := ⟨rfl, rfl, rfl, by decide +kernel, rfl, by decide +kernel, by decide +kernel⟩
theorem n_made_of_0 : NmOk N_made_of (defScope s_made_of) 0 "form" := nmB_ok (by decide +kernel)
theorem g_made_of_frac : (defScope s_made_of).names.lookup ("frac" : Str) = some .globalImplicit := by decide +kernel
def Ok_made_of (P : Program) (w : World) (K : PySem.W.Frag) (mg : Str → Option Value) (base : Heap) : Prop := ∃ f fd, mg ("made_of" : Str) = some (.ref f) ∧ PySem.W.keepIn K (.ref f) = true ∧ Binds K fd ["form"] [] ∧ FnG P w K mg base 3 f fd ["form"] (spD K 1 m_made_of)
theorem ok_made_of (T : Top K mg) (h_frac : Ok_frac P w K mg base) : Ok_made_of P w K mg base := by
  obtain ⟨f, fd, hq, F⟩ := T.d_made_of
  obtain ⟨f_frac, fd_frac, q_frac, K_frac, b_frac, G_frac⟩ := h_frac
  refine ⟨f, fd, hq, F.kp, F.bindsN (fun _ _ _ _ _ _ us hl => match us, hl with | [_], _ => rfl), ?_⟩
  refine fn_D F S_made_of fun cdv A outer s H hr hG => ?_
  exact (db_one (ds_ret (de_tup (da_cons (de_call G_frac (hr.mono (by decide)) hG g_made_of_frac q_frac K_frac b_frac (da_cons (de_ix ix' (d_nm n_made_of_0) de_int (fun _ _ => rfl)) (da_cons (de_ix ix' (d_nm n_made_of_0) de_int (fun _ _ => rfl)) da_nil)) (lenC (lenC lenN)) (nd_frac)) (da_cons (de_call G_frac (hr.mono (by decide)) hG g_made_of_frac q_frac K_frac b_frac (da_cons (de_ix ix' (d_nm n_made_of_0) de_int (fun _ _ => rfl)) (da_cons (de_ix ix' (d_nm n_made_of_0) de_int (fun _ _ => rfl)) da_nil)) (lenC (lenC lenN)) (nd_frac)) da_nil)))))
abbrev N_rule_of : List Str := ["form"]
theorem S_rule_of : FnScope N_rule_of ["form"] (defScope s_rule_of) := ⟨rfl, rfl, rfl, by decide +kernel, rfl, by decide +kernel, by decide +kernel⟩
theorem n_rule_of_0 : NmOk N_rule_of (defScope s_rule_of) 0 "form" := nmB_ok (by decide +kernel)
theorem g_rule_of_made_of : (defScope s_rule_of).names.lookup ("made_of" : Str) = some .globalImplicit := by decide +kernel
theorem g_rule_of_common : (defScope s_rule_of).names.lookup ("common" : Str) = some .globalImplicit := by decide +kernel
theorem g_rule_of_is_within : (defScope s_rule_of).names.lookup ("is_within" : Str) = some .globalImplicit := by decide +kernel
theorem g_rule_of_is_tuple_of : (defScope s_rule_of).names.lookup ("is_tuple_of" : Str) = some .globalImplicit := by decide +kernel
theorem g_rule_of_MOST_BOTTOM : (defScope s_rule_of).names.lookup ("MOST_BOTTOM" : Str) = some .globalImplicit := by decide +kernel
def Ok_rule_of (P : Program) (w : World) (K : PySem.W.Frag) (mg : Str → Option Value) (base : Heap) : Prop := ∃ f fd, mg ("rule_of" : Str) = some (.ref f) ∧ PySem.W.keepIn K (.ref f) = true ∧ Binds K fd ["form"] [] ∧ FnG P w K mg base 4 f fd ["form"] (spD K 1 m_rule_of)
theorem ok_rule_of (T : Top K mg) (h_made_of : Ok_made_of P w K mg base) (h_common : Ok_common P w K mg base) (h_is_within : Ok_is_within P w K mg base) (h_is_tuple_of : Ok_is_tuple_of P w K mg base) : Ok_rule_of P w K mg base := by
  obtain ⟨f, fd, hq, F⟩ := T.d_rule_of
  obtain ⟨f_made_of, fd_made_of, q_made_of, K_made_of, b_made_of, G_made_of⟩ := h_made_of
  obtain ⟨f_common, fd_common, q_common, K_common, b_common, G_common⟩ := h_common
  obtain ⟨f_is_within, fd_is_within, q_is_within, K_is_within, b_is_within, G_is_within⟩ := h_is_within
  obtain ⟨f_is_tuple_of, fd_is_tuple_of, q_is_tuple_of, K_is_tuple_of, b_is_tuple_of, G_is_tuple_of⟩ := h_is_tuple_of
  obtain ⟨v_MOST_BOTTOM, k_MOST_BOTTOM⟩ := T.k_MOST_BOTTOM
  refine ⟨f, fd, hq, F.kp, F.bindsN (fun _ _ _ _ _ _ us hl => match us, hl with | [_], _ => rfl), ?_⟩
  refine fn_D F S_rule_of fun cdv A outer s H hr hG => ?_
  exact (db_cons (ds_if (dt_w (dw_or (dt_not (dt_val (de_call G_is_tuple_of (hr.mono (by decide)) hG g_rule_of_is_tuple_of q_is_tuple_of K_is_tuple_of b_is_tuple_of (da_cons (d_nm n_rule_of_0) (da_cons de_int da_nil)) (lenC (lenC lenN)) (nd_is_tuple_of)))) (dw_or (dt_not (dt_val (de_call G_is_within (hr.mono (by decide)) hG g_rule_of_is_within q_is_within K_is_within b_is_within (da_cons (de_ix ix' (d_nm n_rule_of_0) de_int (fun _ _ => rfl)) (da_cons de_int (da_cons (d_gint g_rule_of_MOST_BOTTOM k_MOST_BOTTOM (nd_MOST_BOTTOM)) da_nil))) (lenC (lenC (lenC lenN))) (nd_is_within)))) (dw_or1 (dt_not (dt_val (de_call G_is_within (hr.mono (by decide)) hG g_rule_of_is_within q_is_within K_is_within b_is_within (da_cons (de_ix ix' (d_nm n_rule_of_0) de_int (fun _ _ => rfl)) (da_cons de_int (da_cons (de_ix ix' (d_nm n_rule_of_0) de_int (fun _ _ => rfl)) da_nil))) (lenC (lenC (lenC lenN))) (nd_is_within)))))))) (db_one ds_never) db_nil)
    (db_cons (ds_if (dt_w (dw_or (dt_cmp (op_ne' (hu64 hr)) (de_call G_common (hr.mono (by decide)) hG g_rule_of_common q_common K_common b_common (da_cons (de_ix ix' (d_nm n_rule_of_0) de_int (fun _ _ => rfl)) (da_cons (de_ix ix' (d_nm n_rule_of_0) de_int (fun _ _ => rfl)) da_nil)) (lenC (lenC lenN)) (nd_common)) de_int (nomark _)) (dw_or1 (dt_not (dt_val (de_call G_is_within (hr.mono (by decide)) hG g_rule_of_is_within q_is_within K_is_within b_is_within (da_cons (de_ix ix' (d_nm n_rule_of_0) de_int (fun _ _ => rfl)) (da_cons de_int (da_cons (de_op op_sub' (de_ix ix' (d_nm n_rule_of_0) de_int (fun _ _ => rfl)) de_int) da_nil))) (lenC (lenC (lenC lenN))) (nd_is_within))))))) (db_one ds_never) db_nil)
    (db_one (ds_ret (de_call G_made_of (hr.mono (by decide)) hG g_rule_of_made_of q_made_of K_made_of b_made_of (da_cons (d_nm n_rule_of_0) da_nil) (lenC lenN) (nd_made_of))))))
abbrev N_has_duty : List Str := ["rule", "day"]
theorem S_has_duty : FnScope N_has_duty ["rule", "day"] (defScope s_has_duty) := ⟨rfl, rfl, rfl, by decide +kernel, rfl, by decide +kernel, by decide +kernel⟩
theorem n_has_duty_1 : NmOk N_has_duty (defScope s_has_duty) 1 "day" := nmB_ok (by decide +kernel)
theorem n_has_duty_0 : NmOk N_has_duty (defScope s_has_duty) 0 "rule" := nmB_ok (by decide +kernel)
theorem g_has_duty_total_to : (defScope s_has_duty).names.lookup ("total_to" : Str) = some .globalImplicit := by decide +kernel
def Ok_has_duty (P : Program) (w : World) (K : PySem.W.Frag) (mg : Str → Option Value) (base : Heap) : Prop := ∃ f fd, mg ("has_duty" : Str) = some (.ref f) ∧ PySem.W.keepIn K (.ref f) = true ∧ Binds K fd ["rule", "day"] [] ∧ FnG P w K mg base 2 f fd ["rule", "day"] (spD K 2 m_has_duty)
theorem ok_has_duty (T : Top K mg) (h_total_to : Ok_total_to P w K mg base) : Ok_has_duty P w K mg base := by
  obtain ⟨f, fd, hq, F⟩ := T.d_has_duty
  obtain ⟨f_total_to, fd_total_to, q_total_to, K_total_to, b_total_to, G_total_to⟩ := h_total_to
  refine ⟨f, fd, hq, F.kp, F.bindsN (fun _ _ _ _ _ _ us hl => match us, hl with | [_, _], _ => rfl), ?_⟩
  refine fn_D F S_has_duty fun cdv A outer s H hr hG => ?_
  exact (db_one (ds_ret (de_cmp op_gt' (de_call G_total_to (hr.mono (by decide)) hG g_has_duty_total_to q_total_to K_total_to b_total_to (da_cons (d_nm n_has_duty_0) (da_cons (de_op op_add' (d_nm n_has_duty_1) de_int) da_nil)) (lenC (lenC lenN)) (nd_total_to)) (de_call G_total_to (hr.mono (by decide)) hG g_has_duty_total_to q_total_to K_total_to b_total_to (da_cons (d_nm n_has_duty_0) (da_cons (d_nm n_has_duty_1) da_nil)) (lenC (lenC lenN)) (nd_total_to)) (nomark _))))
abbrev N_first_parting : List Str := ["one", "other", "day"]
theorem S_first_parting : FnScope N_first_parting ["one", "other"] (defScope s_first_parting) := ⟨rfl, rfl, rfl, by decide +kernel, rfl, by decide +kernel, by decide +kernel⟩
theorem n_first_parting_0 : NmOk N_first_parting (defScope s_first_parting) 0 "one" := nmB_ok (by decide +kernel)
theorem n_first_parting_1 : NmOk N_first_parting (defScope s_first_parting) 1 "other" := nmB_ok (by decide +kernel)
theorem g_first_parting_range : (defScope s_first_parting).names.lookup ("range" : Str) = some .globalImplicit := by decide +kernel
theorem l_first_parting_2 : LcOk N_first_parting (defScope s_first_parting) 2 "day" := lcB_ok (by decide +kernel)
theorem n_first_parting_2 : NmOk N_first_parting (defScope s_first_parting) 2 "day" := nmB_ok (by decide +kernel)
theorem g_first_parting_has_duty : (defScope s_first_parting).names.lookup ("has_duty" : Str) = some .globalImplicit := by decide +kernel
theorem g_first_parting_form_of : (defScope s_first_parting).names.lookup ("form_of" : Str) = some .globalImplicit := by decide +kernel
def Ok_first_parting (P : Program) (w : World) (K : PySem.W.Frag) (mg : Str → Option Value) (base : Heap) : Prop := ∃ f fd, mg ("first_parting" : Str) = some (.ref f) ∧ PySem.W.keepIn K (.ref f) = true ∧ Binds K fd ["one", "other"] [] ∧ FnG P w K mg base 3 f fd ["one", "other"] (spD K 2 m_first_parting)
theorem ok_first_parting (T : Top K mg) (h_has_duty : Ok_has_duty P w K mg base) (h_form_of : Ok_form_of P w K mg base) : Ok_first_parting P w K mg base := by
  obtain ⟨f, fd, hq, F⟩ := T.d_first_parting
  obtain ⟨f_has_duty, fd_has_duty, q_has_duty, K_has_duty, b_has_duty, G_has_duty⟩ := h_has_duty
  obtain ⟨f_form_of, fd_form_of, q_form_of, K_form_of, b_form_of, G_form_of⟩ := h_form_of
  have z_range := T.z_range
  refine ⟨f, fd, hq, F.kp, F.bindsN (fun _ _ _ _ _ _ us hl => match us, hl with | [_, _], _ => rfl), ?_⟩
  refine fn_D F S_first_parting fun cdv A outer s H hr hG => ?_
  exact (db_cons (ds_if (dt_cmp (op_eq' (hu64 hr)) (de_call G_form_of (hr.mono (by decide)) hG g_first_parting_form_of q_form_of K_form_of b_form_of (da_cons (d_nm n_first_parting_0) da_nil) (lenC lenN) (nd_form_of)) (de_call G_form_of (hr.mono (by decide)) hG g_first_parting_form_of q_form_of K_form_of b_form_of (da_cons (d_nm n_first_parting_1) da_nil) (lenC lenN) (nd_form_of)) (nomark _)) (db_one (ds_ret de_none)) db_nil)
    (db_cons (ds_for PassesOwn.never rfl (di_rg1 g_first_parting_range z_range (da_cons (de_op op_add' (de_ix ix' (de_ix ix' (d_nm n_first_parting_0) de_int (fun _ _ => rfl)) de_int (fun _ _ => rfl)) (de_ix ix' (de_ix ix' (d_nm n_first_parting_1) de_int (fun _ _ => rfl)) de_int (fun _ _ => rfl))) da_nil)) (d_gnm S_first_parting.nd l_first_parting_2 (fun _ => rfl)) (db_one (ds_if (dt_cmp (op_ne' (hu64 hr)) (de_call G_has_duty (hr.mono (by decide)) hG g_first_parting_has_duty q_has_duty K_has_duty b_has_duty (da_cons (d_nm n_first_parting_0) (da_cons (d_nm n_first_parting_2) da_nil)) (lenC (lenC lenN)) (nd_has_duty)) (de_call G_has_duty (hr.mono (by decide)) hG g_first_parting_has_duty q_has_duty K_has_duty b_has_duty (da_cons (d_nm n_first_parting_1) (da_cons (d_nm n_first_parting_2) da_nil)) (lenC (lenC lenN)) (nd_has_duty)) (nomark _)) (db_one (ds_ret (d_nm n_first_parting_2))) db_nil)))
    (db_one (ds_ret de_none))))
abbrev N_parts_at : List Str := ["one", "other"]
theorem S_parts_at : FnScope N_parts_at ["one", "other"] (defScope s_parts_at) := ⟨rfl, rfl, rfl, by decide +kernel, rfl, by decide +kernel, by decide +kernel⟩
theorem n_parts_at_1 : NmOk N_parts_at (defScope s_parts_at) 1 "other" := nmB_ok (by decide +kernel)
theorem n_parts_at_0 : NmOk N_parts_at (defScope s_parts_at) 0 "one" := nmB_ok (by decide +kernel)
theorem g_parts_at_first_parting : (defScope s_parts_at).names.lookup ("first_parting" : Str) = some .globalImplicit := by decide +kernel
theorem g_parts_at_check_rule : (defScope s_parts_at).names.lookup ("check_rule" : Str) = some .globalImplicit := by decide +kernel
def Ok_parts_at (P : Program) (w : World) (K : PySem.W.Frag) (mg : Str → Option Value) (base : Heap) : Prop := ∃ f fd, mg ("parts_at" : Str) = some (.ref f) ∧ PySem.W.keepIn K (.ref f) = true ∧ Binds K fd ["one", "other"] [] ∧ FnG P w K mg base 6 f fd ["one", "other"] (spD K 2 m_parts_at)
theorem ok_parts_at (T : Top K mg) (h_first_parting : Ok_first_parting P w K mg base) (h_check_rule : Ok_check_rule P w K mg base) : Ok_parts_at P w K mg base := by
  obtain ⟨f, fd, hq, F⟩ := T.d_parts_at
  obtain ⟨f_first_parting, fd_first_parting, q_first_parting, K_first_parting, b_first_parting, G_first_parting⟩ := h_first_parting
  obtain ⟨f_check_rule, fd_check_rule, q_check_rule, K_check_rule, b_check_rule, G_check_rule⟩ := h_check_rule
  refine ⟨f, fd, hq, F.kp, F.bindsN (fun _ _ _ _ _ _ us hl => match us, hl with | [_, _], _ => rfl), ?_⟩
  refine fn_D F S_parts_at fun cdv A outer s H hr hG => ?_
  exact (db_cons (ds_expr (de_call G_check_rule (hr.mono (by decide)) hG g_parts_at_check_rule q_check_rule K_check_rule b_check_rule (da_cons (d_nm n_parts_at_0) da_nil) (lenC lenN) (nd_check_rule)))
    (db_cons (ds_expr (de_call G_check_rule (hr.mono (by decide)) hG g_parts_at_check_rule q_check_rule K_check_rule b_check_rule (da_cons (d_nm n_parts_at_1) da_nil) (lenC lenN) (nd_check_rule)))
    (db_one (ds_ret (de_call G_first_parting (hr.mono (by decide)) hG g_parts_at_first_parting q_first_parting K_first_parting b_first_parting (da_cons (d_nm n_parts_at_0) (da_cons (d_nm n_parts_at_1) da_nil)) (lenC (lenC lenN)) (nd_first_parting))))))
abbrev N_law_hand : List Str := ["script", "cells", "cell"]
theorem S_law_hand : FnScope N_law_hand ["script"] (defScope s_law_hand) := ⟨rfl, rfl, rfl, by decide +kernel, rfl, by decide +kernel, by decide +kernel⟩
abbrev c_law_hand_1 : Scope := ({ kind := .function, names := [(Str.ofString ".0", .local), (Str.ofString "cell", .local), (Str.ofString "abs", .globalImplicit), (Str.ofString "int", .globalImplicit)], isGenerator := false, isCoroutine := false, more := [] } : Scope)
theorem n_law_hand_1 : NmOk N_law_hand (defScope s_law_hand) 1 "cells" := nmB_ok (by decide +kernel)
theorem g_law_hand_len : (defScope s_law_hand).names.lookup ("len" : Str) = some .globalImplicit := by decide +kernel
theorem n_law_hand_0 : NmOk N_law_hand (defScope s_law_hand) 0 "script" := nmB_ok (by decide +kernel)
theorem l_law_hand_b1_2 : LcOk N_law_hand (relS c_law_hand_1 (defScope s_law_hand)) 2 "cell" := lcB_ok (by decide +kernel)
theorem o_law_hand_b1_2 : (relS c_law_hand_1 (defScope s_law_hand)).names.lookup ("cell" : Str) = some .local := by decide +kernel
theorem n_law_hand_b1_2 : NmOk N_law_hand (relS c_law_hand_1 (defScope s_law_hand)) 2 "cell" := nmB_ok (by decide +kernel)
theorem g_law_hand_b1_int : (relS c_law_hand_1 (defScope s_law_hand)).names.lookup ("int" : Str) = some .globalImplicit := by decide +kernel
theorem g_law_hand_b1_abs : (relS c_law_hand_1 (defScope s_law_hand)).names.lookup ("abs" : Str) = some .globalImplicit := by decide +kernel
theorem l_law_hand_1 : LcOk N_law_hand (defScope s_law_hand) 1 "cells" := lcB_ok (by decide +kernel)
theorem o_law_hand_1 : (defScope s_law_hand).names.lookup ("cells" : Str) = some .local := by decide +kernel
def Ok_law_hand (P : Program) (w : World) (K : PySem.W.Frag) (mg : Str → Option Value) (base : Heap) : Prop := ∃ f fd, mg ("_law_hand" : Str) = some (.ref f) ∧ PySem.W.keepIn K (.ref f) = true ∧ Binds K fd ["script"] [] ∧ FnG P w K mg base 1 f fd ["script"] (spF K 1 m_law_hand)
theorem ok_law_hand (T : Top K mg) : Ok_law_hand P w K mg base := by
  obtain ⟨f, fd, hq, F⟩ := T.d_law_hand
  have z_len := T.z_len
  have z_int := T.z_int
  have z_abs := T.z_abs
  refine ⟨f, fd, hq, F.kp, F.bindsN (fun _ _ _ _ _ _ us hl => match us, hl with | [_], _ => rfl), ?_⟩
  refine fn_F F S_law_hand fun cdv A outer s H hr hG => ?_
  exact (dbf_cons (ds_setLc 1 (own := [("cell", 2)]) rfl S_law_hand.nd l_law_hand_1.hN o_law_hand_1 (sw_true rfl rfl rfl (by decide +kernel)) (di_any (de_sl sl' (d_nm n_law_hand_0) do_none (do_some de_int))) (blkOk_by (N := N_law_hand) (sc := defScope s_law_hand) (by decide +kernel)) (fun _ _ _ _ _ => (d_gcnm S_law_hand.nd l_law_hand_b1_2 o_law_hand_b1_2 (by decide))) (fun _ _ _ _ _ => dts_nil) (fun _ _ _ _ _ => (de_callB call_abs' g_law_hand_b1_abs z_abs bt_abs (da_cons (de_callTy call_int' g_law_hand_b1_int z_int bt_int (da_cons (d_nm n_law_hand_b1_2) da_nil)) da_nil)))) (dbf_ret (df_lst (da_cons (d_nm n_law_hand_1) (da_cons de_int (da_cons de_int (da_cons (de_op op_add' de_int (de_op op_mul' de_int (de_callB call_len' g_law_hand_len z_len bt_len (da_cons (d_nm n_law_hand_1) da_nil)))) (da_cons de_int da_nil))))))))
abbrev N_law_draw : List Str := ["hand", "many", "cell", "digit", "number"]
theorem S_law_draw : FnScope N_law_draw ["hand", "many"] (defScope s_law_draw) := ⟨rfl, rfl, rfl, by decide +kernel, rfl, by decide +kernel, by decide +kernel⟩
theorem n_law_draw_4 : NmOk N_law_draw (defScope s_law_draw) 4 "number" := nmB_ok (by decide +kernel)
theorem g_law_draw_int : (defScope s_law_draw).names.lookup ("int" : Str) = some .globalImplicit := by decide +kernel
theorem n_law_draw_1 : NmOk N_law_draw (defScope s_law_draw) 1 "many" := nmB_ok (by decide +kernel)
theorem l_law_draw_4 : LcOk N_law_draw (defScope s_law_draw) 4 "number" := lcB_ok (by decide +kernel)
theorem n_law_draw_0 : NmOk N_law_draw (defScope s_law_draw) 0 "hand" := nmB_ok (by decide +kernel)
theorem n_law_draw_3 : NmOk N_law_draw (defScope s_law_draw) 3 "digit" := nmB_ok (by decide +kernel)
theorem l_law_draw_3 : LcOk N_law_draw (defScope s_law_draw) 3 "digit" := lcB_ok (by decide +kernel)
theorem g_law_draw_len : (defScope s_law_draw).names.lookup ("len" : Str) = some .globalImplicit := by decide +kernel
theorem n_law_draw_2 : NmOk N_law_draw (defScope s_law_draw) 2 "cell" := nmB_ok (by decide +kernel)
theorem l_law_draw_2 : LcOk N_law_draw (defScope s_law_draw) 2 "cell" := lcB_ok (by decide +kernel)
def Ok_law_draw (P : Program) (w : World) (K : PySem.W.Frag) (mg : Str → Option Value) (base : Heap) : Prop := ∃ f fd, mg ("_law_draw" : Str) = some (.ref f) ∧ PySem.W.keepIn K (.ref f) = true ∧ Binds K fd ["hand", "many"] [] ∧ FnG P w K mg base 1 f fd ["hand", "many"] (spH K 2 m_law_draw)
theorem ok_law_draw (T : Top K mg) : Ok_law_draw P w K mg base := by
  obtain ⟨f, fd, hq, F⟩ := T.d_law_draw
  have z_int := T.z_int
  have z_len := T.z_len
  refine ⟨f, fd, hq, F.kp, F.bindsN (fun _ _ _ _ _ _ us hl => match us, hl with | [_, _], _ => rfl), ?_⟩
  refine fn_H F S_law_draw fun cdv A outer s H hr hG => ?_
  exact (db_cons (ds_if (dt_w (dw_and (dt_cmp (op_eq' (hu64 hr)) (d_ixo n_law_draw_0 de_int (fun _ _ => rfl)) de_int (nomark _)) (dw_and1 (dt_cmp op_lt' (d_ixo n_law_draw_0 de_int (fun _ _ => rfl)) (de_callB call_len' g_law_draw_len z_len bt_len (da_cons (d_ixo n_law_draw_0 de_int (fun _ _ => rfl)) da_nil)) (nomark _))))) (db_cons (d_set S_law_draw.nd l_law_draw_2 (fun _ => rfl) (de_ix ix' (d_ixo n_law_draw_0 de_int (fun _ _ => rfl)) (d_ixo n_law_draw_0 de_int (fun _ _ => rfl)) (fun _ _ => rfl)))
    (db_cons (d_put n_law_draw_0 de_int (de_op op_add' (d_ixo n_law_draw_0 de_int (fun _ _ => rfl)) de_int))
    (db_cons (d_put n_law_draw_0 de_int (de_op op_mod' (de_callTy call_int' g_law_draw_int z_int bt_int (da_cons (de_op op_add' (de_op op_add' (de_op op_mul' (d_ixo n_law_draw_0 de_int (fun _ _ => rfl)) de_int) (de_op op_mul' (d_nm n_law_draw_2) de_int)) de_int) da_nil)) de_int))
    (db_one (ds_if (dt_cmp op_ge' (d_nm n_law_draw_2) (de_op op_pow' de_int de_int) (nomark _)) (db_one (d_put n_law_draw_0 de_int (d_nm n_law_draw_2))) db_nil))))) db_nil)
    (db_cons (ds_if (dt_cmp op_gt' (d_ixo n_law_draw_0 de_int (fun _ _ => rfl)) de_int (nomark _)) (db_cons (d_set S_law_draw.nd l_law_draw_3 (fun _ => rfl) (de_op op_mod' (de_callTy call_int' g_law_draw_int z_int bt_int (da_cons (d_ixo n_law_draw_0 de_int (fun _ _ => rfl)) da_nil)) (d_nm n_law_draw_1)))
    (db_cons (d_put n_law_draw_0 de_int (de_op op_div' (d_ixo n_law_draw_0 de_int (fun _ _ => rfl)) (d_nm n_law_draw_1)))
    (db_one (ds_ret (d_nm n_law_draw_3))))) db_nil)
    (db_cons (d_put n_law_draw_0 de_int (de_op op_add' (d_ixo n_law_draw_0 de_int (fun _ _ => rfl)) de_int))
    (db_cons (d_set S_law_draw.nd l_law_draw_4 (fun _ => rfl) (de_op op_mod' (de_callTy call_int' g_law_draw_int z_int bt_int (da_cons (de_op op_mul' (de_callTy call_int' g_law_draw_int z_int bt_int (da_cons (de_op op_add' (d_ixo n_law_draw_0 de_int (fun _ _ => rfl)) (de_op op_mul' de_int (d_ixo n_law_draw_0 de_int (fun _ _ => rfl)))) da_nil)) de_int) da_nil)) de_int))
    (db_cons (d_set S_law_draw.nd l_law_draw_4 (fun _ => rfl) (de_op op_mod' (de_callTy call_int' g_law_draw_int z_int bt_int (da_cons (de_op op_mul' (d_nm n_law_draw_4) (de_op op_add' (de_op op_div' (d_nm n_law_draw_4) de_int) de_int)) da_nil)) de_int))
    (db_cons (d_set S_law_draw.nd l_law_draw_4 (fun _ => rfl) (de_op op_mod' (de_callTy call_int' g_law_draw_int z_int bt_int (da_cons (de_op op_mul' (d_nm n_law_draw_4) (de_op op_add' (de_op op_div' (d_nm n_law_draw_4) de_int) de_int)) da_nil)) de_int))
    (db_one (ds_ret (de_op op_mod' (de_callTy call_int' g_law_draw_int z_int bt_int (da_cons (de_op op_div' (d_nm n_law_draw_4) de_int) da_nil)) (d_nm n_law_draw_1))))))))))
abbrev N_law_some : List Str := ["hand", "things"]
theorem S_law_some : FnScope N_law_some ["hand", "things"] (defScope s_law_some) := ⟨rfl, rfl, rfl, by decide +kernel, rfl, by decide +kernel, by decide +kernel⟩
theorem n_law_some_1 : NmOk N_law_some (defScope s_law_some) 1 "things" := nmB_ok (by decide +kernel)
theorem g_law_some_len : (defScope s_law_some).names.lookup ("len" : Str) = some .globalImplicit := by decide +kernel
theorem g_law_some__law_draw : (defScope s_law_some).names.lookup ("_law_draw" : Str) = some .globalImplicit := by decide +kernel
theorem n_law_some_0 : NmOk N_law_some (defScope s_law_some) 0 "hand" := nmB_ok (by decide +kernel)
def Ok_law_some (P : Program) (w : World) (K : PySem.W.Frag) (mg : Str → Option Value) (base : Heap) : Prop := ∃ f fd, mg ("_law_some" : Str) = some (.ref f) ∧ PySem.W.keepIn K (.ref f) = true ∧ Binds K fd ["hand", "things"] [] ∧ FnG P w K mg base 2 f fd ["hand", "things"] (spH K 2 m_law_some)
theorem ok_law_some (T : Top K mg) (h_law_draw : Ok_law_draw P w K mg base) : Ok_law_some P w K mg base := by
  obtain ⟨f, fd, hq, F⟩ := T.d_law_some
  obtain ⟨f_law_draw, fd_law_draw, q_law_draw, K_law_draw, b_law_draw, G_law_draw⟩ := h_law_draw
  have z_len := T.z_len
  refine ⟨f, fd, hq, F.kp, F.bindsN (fun _ _ _ _ _ _ us hl => match us, hl with | [_, _], _ => rfl), ?_⟩
  refine fn_H F S_law_some fun cdv A outer s H hr hG => ?_
  exact (db_one (ds_ret (de_ix ix' (d_nm n_law_some_1) (d_callH G_law_draw (hr.mono (by decide)) hG g_law_some__law_draw q_law_draw K_law_draw b_law_draw n_law_some_0 (da_cons (de_callB call_len' g_law_some_len z_len bt_len (da_cons (d_nm n_law_some_1) da_nil)) da_nil) (lenS (lenC lenN)) (nd__law_draw)) (fun _ _ => rfl))))
abbrev N_law_divisor : List Str := ["one", "other"]
theorem S_law_divisor : FnScope N_law_divisor ["one", "other"] (defScope s_law_divisor) := ⟨rfl, rfl, rfl, by decide +kernel, rfl, by decide +kernel, by decide +kernel⟩
theorem n_law_divisor_0 : NmOk N_law_divisor (defScope s_law_divisor) 0 "one" := nmB_ok (by decide +kernel)
theorem n_law_divisor_1 : NmOk N_law_divisor (defScope s_law_divisor) 1 "other" := nmB_ok (by decide +kernel)
theorem g_law_divisor_int : (defScope s_law_divisor).names.lookup ("int" : Str) = some .globalImplicit := by decide +kernel
theorem o_law_divisor_0 : (defScope s_law_divisor).names.lookup ("one" : Str) = some .local := by decide +kernel
theorem o_law_divisor_1 : (defScope s_law_divisor).names.lookup ("other" : Str) = some .local := by decide +kernel
theorem l_law_divisor_0 : LcOk N_law_divisor (defScope s_law_divisor) 0 "one" := lcB_ok (by decide +kernel)
theorem l_law_divisor_1 : LcOk N_law_divisor (defScope s_law_divisor) 1 "other" := lcB_ok (by decide +kernel)
def Ok_law_divisor (P : Program) (w : World) (K : PySem.W.Frag) (mg : Str → Option Value) (base : Heap) : Prop := ∃ f fd, mg ("_law_divisor" : Str) = some (.ref f) ∧ PySem.W.keepIn K (.ref f) = true ∧ Binds K fd ["one", "other"] [] ∧ FnG P w K mg base 1 f fd ["one", "other"] (spD K 2 m_law_divisor)
theorem ok_law_divisor (T : Top K mg) : Ok_law_divisor P w K mg base := by
  obtain ⟨f, fd, hq, F⟩ := T.d_law_divisor
  have z_int := T.z_int
  refine ⟨f, fd, hq, F.kp, F.bindsN (fun _ _ _ _ _ _ us hl => match us, hl with | [_, _], _ => rfl), ?_⟩
  refine fn_D F S_law_divisor fun cdv A outer s H hr hG => ?_
  exact (db_cons (ds_while PassesOwn.never (dt_cmp (op_ne' (hu64 hr)) (d_nm n_law_divisor_1) de_int (nomark _)) (db_one (ds_par 0 1 rfl S_law_divisor.nd l_law_divisor_0.hN l_law_divisor_1.hN (by decide) o_law_divisor_0 o_law_divisor_1 (da_cons (d_nm n_law_divisor_1) (da_cons (de_op op_mod' (de_callTy call_int' g_law_divisor_int z_int bt_int (da_cons (d_nm n_law_divisor_0) da_nil)) (d_nm n_law_divisor_1)) da_nil)) (by rfl))))
    (db_one (ds_ret (d_nm n_law_divisor_0))))
abbrev N_law_fraction : List Str := ["top", "bottom", "shared"]
theorem S_law_fraction : FnScope N_law_fraction ["top", "bottom"] (defScope s_law_fraction) := ⟨rfl, rfl, rfl, by decide +kernel, rfl, by decide +kernel, by decide +kernel⟩
theorem n_law_fraction_1 : NmOk N_law_fraction (defScope s_law_fraction) 1 "bottom" := nmB_ok (by decide +kernel)
theorem n_law_fraction_2 : NmOk N_law_fraction (defScope s_law_fraction) 2 "shared" := nmB_ok (by decide +kernel)
theorem n_law_fraction_0 : NmOk N_law_fraction (defScope s_law_fraction) 0 "top" := nmB_ok (by decide +kernel)
theorem g_law_fraction_abs : (defScope s_law_fraction).names.lookup ("abs" : Str) = some .globalImplicit := by decide +kernel
theorem g_law_fraction__law_divisor : (defScope s_law_fraction).names.lookup ("_law_divisor" : Str) = some .globalImplicit := by decide +kernel
theorem l_law_fraction_2 : LcOk N_law_fraction (defScope s_law_fraction) 2 "shared" := lcB_ok (by decide +kernel)
def Ok_law_fraction (P : Program) (w : World) (K : PySem.W.Frag) (mg : Str → Option Value) (base : Heap) : Prop := ∃ f fd, mg ("_law_fraction" : Str) = some (.ref f) ∧ PySem.W.keepIn K (.ref f) = true ∧ Binds K fd ["top", "bottom"] [] ∧ FnG P w K mg base 2 f fd ["top", "bottom"] (spD K 2 m_law_fraction)
theorem ok_law_fraction (T : Top K mg) (h_law_divisor : Ok_law_divisor P w K mg base) : Ok_law_fraction P w K mg base := by
  obtain ⟨f, fd, hq, F⟩ := T.d_law_fraction
  obtain ⟨f_law_divisor, fd_law_divisor, q_law_divisor, K_law_divisor, b_law_divisor, G_law_divisor⟩ := h_law_divisor
  have z_abs := T.z_abs
  refine ⟨f, fd, hq, F.kp, F.bindsN (fun _ _ _ _ _ _ us hl => match us, hl with | [_, _], _ => rfl), ?_⟩
  refine fn_D F S_law_fraction fun cdv A outer s H hr hG => ?_
  exact (db_cons (d_set S_law_fraction.nd l_law_fraction_2 (fun _ => rfl) (de_call G_law_divisor (hr.mono (by decide)) hG g_law_fraction__law_divisor q_law_divisor K_law_divisor b_law_divisor (da_cons (de_callB call_abs' g_law_fraction_abs z_abs bt_abs (da_cons (d_nm n_law_fraction_0) da_nil)) (da_cons (d_nm n_law_fraction_1) da_nil)) (lenC (lenC lenN)) (nd__law_divisor)))
    (db_one (ds_ret (de_tup (da_cons (de_op op_div' (d_nm n_law_fraction_0) (d_nm n_law_fraction_2)) (da_cons (de_op op_div' (d_nm n_law_fraction_1) (d_nm n_law_fraction_2)) da_nil))))))
abbrev N_law_made : List Str := ["p", "q", "k", "first", "length", "row", "day"]
theorem S_law_made : FnScope N_law_made ["p", "q", "k", "first", "length"] (defScope s_law_made) := ⟨rfl, rfl, rfl, by decide +kernel, rfl, by decide +kernel, by decide +kernel⟩
theorem n_law_made_5 : NmOk N_law_made (defScope s_law_made) 5 "row" := nmB_ok (by decide +kernel)
theorem n_law_made_3 : NmOk N_law_made (defScope s_law_made) 3 "first" := nmB_ok (by decide +kernel)
theorem n_law_made_4 : NmOk N_law_made (defScope s_law_made) 4 "length" := nmB_ok (by decide +kernel)
theorem g_law_made_range : (defScope s_law_made).names.lookup ("range" : Str) = some .globalImplicit := by decide +kernel
theorem l_law_made_6 : LcOk N_law_made (defScope s_law_made) 6 "day" := lcB_ok (by decide +kernel)
theorem n_law_made_0 : NmOk N_law_made (defScope s_law_made) 0 "p" := nmB_ok (by decide +kernel)
theorem n_law_made_6 : NmOk N_law_made (defScope s_law_made) 6 "day" := nmB_ok (by decide +kernel)
theorem n_law_made_2 : NmOk N_law_made (defScope s_law_made) 2 "k" := nmB_ok (by decide +kernel)
theorem n_law_made_1 : NmOk N_law_made (defScope s_law_made) 1 "q" := nmB_ok (by decide +kernel)
theorem g_law_made_str : (defScope s_law_made).names.lookup ("str" : Str) = some .globalImplicit := by decide +kernel
theorem l_law_made_5 : LcOk N_law_made (defScope s_law_made) 5 "row" := lcB_ok (by decide +kernel)
def Ok_law_made (P : Program) (w : World) (K : PySem.W.Frag) (mg : Str → Option Value) (base : Heap) : Prop := ∃ f fd, mg ("_law_made" : Str) = some (.ref f) ∧ PySem.W.keepIn K (.ref f) = true ∧ Binds K fd ["p", "q", "k", "first", "length"] [] ∧ FnG P w K mg base 1 f fd ["p", "q", "k", "first", "length"] (spD K 5 m_law_made)
theorem ok_law_made (T : Top K mg) : Ok_law_made P w K mg base := by
  obtain ⟨f, fd, hq, F⟩ := T.d_law_made
  have z_range := T.z_range
  have z_str := T.z_str
  refine ⟨f, fd, hq, F.kp, F.bindsN (fun _ _ _ _ _ _ us hl => match us, hl with | [_, _, _, _, _], _ => rfl), ?_⟩
  refine fn_D F S_law_made fun cdv A outer s H hr hG => ?_
  exact (db_cons (d_set S_law_made.nd l_law_made_5 (fun _ => rfl) de_str)
    (db_cons (ds_for PassesOwn.never rfl (di_rg2 g_law_made_range z_range (da_cons (d_nm n_law_made_3) (da_cons (de_op op_add' (d_nm n_law_made_3) (d_nm n_law_made_4)) da_nil))) (d_gnm S_law_made.nd l_law_made_6 (fun _ => rfl)) (db_one (d_set S_law_made.nd l_law_made_5 (fun _ => rfl) (de_op op_add' (d_nm n_law_made_5) (de_callTy call_str' g_law_made_str z_str bt_str (da_cons (de_op op_sub' (de_op op_div' (de_op op_add' (de_op op_mul' (d_nm n_law_made_0) (de_op op_add' (d_nm n_law_made_6) de_int)) (d_nm n_law_made_2)) (d_nm n_law_made_1)) (de_op op_div' (de_op op_add' (de_op op_mul' (d_nm n_law_made_0) (d_nm n_law_made_6)) (d_nm n_law_made_2)) (d_nm n_law_made_1))) da_nil))))))
    (db_one (ds_ret (d_nm n_law_made_5)))))
abbrev N_law_is : List Str := ["told", "due"]
theorem S_law_is : FnScope N_law_is ["told", "due"] (defScope s_law_is) := ⟨rfl, rfl, rfl, by decide +kernel, rfl, by decide +kernel, by decide +kernel⟩
theorem n_law_is_0 : NmOk N_law_is (defScope s_law_is) 0 "told" := nmB_ok (by decide +kernel)
theorem g_law_is_repr : (defScope s_law_is).names.lookup ("repr" : Str) = some .globalImplicit := by decide +kernel
theorem n_law_is_1 : NmOk N_law_is (defScope s_law_is) 1 "due" := nmB_ok (by decide +kernel)
def Ok_law_is (P : Program) (w : World) (K : PySem.W.Frag) (mg : Str → Option Value) (base : Heap) : Prop := ∃ f fd, mg ("_law_is" : Str) = some (.ref f) ∧ PySem.W.keepIn K (.ref f) = true ∧ Binds K fd ["told", "due"] [] ∧ FnG P w K mg base 1 f fd ["told", "due"] (spD K 2 m_law_is)
theorem ok_law_is (T : Top K mg) : Ok_law_is P w K mg base := by
  obtain ⟨f, fd, hq, F⟩ := T.d_law_is
  have z_repr := T.z_repr
  refine ⟨f, fd, hq, F.kp, F.bindsN (fun _ _ _ _ _ _ us hl => match us, hl with | [_, _], _ => rfl), ?_⟩
  refine fn_D F S_law_is fun cdv A outer s H hr hG => ?_
  exact (db_one (ds_ret (de_cmp (op_eq' (hu64 hr)) (de_callB (call_repr' hG (hu66 hr)) g_law_is_repr z_repr bt_repr (da_cons (d_nm n_law_is_0) da_nil)) (de_callB (call_repr' hG (hu66 hr)) g_law_is_repr z_repr bt_repr (da_cons (d_nm n_law_is_1) da_nil)) (nomark _))))
abbrev N_law_form : List Str := ["hand", "most", "q", "p", "by"]
theorem S_law_form : FnScope N_law_form ["hand", "most"] (defScope s_law_form) := ⟨rfl, rfl, rfl, by decide +kernel, rfl, by decide +kernel, by decide +kernel⟩
theorem n_law_form_2 : NmOk N_law_form (defScope s_law_form) 2 "q" := nmB_ok (by decide +kernel)
theorem g_law_form__law_draw : (defScope s_law_form).names.lookup ("_law_draw" : Str) = some .globalImplicit := by decide +kernel
theorem n_law_form_0 : NmOk N_law_form (defScope s_law_form) 0 "hand" := nmB_ok (by decide +kernel)
theorem n_law_form_3 : NmOk N_law_form (defScope s_law_form) 3 "p" := nmB_ok (by decide +kernel)
theorem n_law_form_4 : NmOk N_law_form (defScope s_law_form) 4 "by" := nmB_ok (by decide +kernel)
theorem o_law_form_3 : (defScope s_law_form).names.lookup ("p" : Str) = some .local := by decide +kernel
theorem o_law_form_2 : (defScope s_law_form).names.lookup ("q" : Str) = some .local := by decide +kernel
theorem l_law_form_3 : LcOk N_law_form (defScope s_law_form) 3 "p" := lcB_ok (by decide +kernel)
theorem l_law_form_2 : LcOk N_law_form (defScope s_law_form) 2 "q" := lcB_ok (by decide +kernel)
theorem g_law_form__law_divisor : (defScope s_law_form).names.lookup ("_law_divisor" : Str) = some .globalImplicit := by decide +kernel
theorem l_law_form_4 : LcOk N_law_form (defScope s_law_form) 4 "by" := lcB_ok (by decide +kernel)
theorem n_law_form_1 : NmOk N_law_form (defScope s_law_form) 1 "most" := nmB_ok (by decide +kernel)
theorem g_law_form__law_some : (defScope s_law_form).names.lookup ("_law_some" : Str) = some .globalImplicit := by decide +kernel
def Ok_law_form (P : Program) (w : World) (K : PySem.W.Frag) (mg : Str → Option Value) (base : Heap) : Prop := ∃ f fd, mg ("_law_form" : Str) = some (.ref f) ∧ PySem.W.keepIn K (.ref f) = true ∧ Binds K fd ["hand", "most"] [] ∧ FnG P w K mg base 3 f fd ["hand", "most"] (spH K 2 m_law_form)
theorem ok_law_form (T : Top K mg) (h_law_draw : Ok_law_draw P w K mg base) (h_law_divisor : Ok_law_divisor P w K mg base) (h_law_some : Ok_law_some P w K mg base) : Ok_law_form P w K mg base := by
  obtain ⟨f, fd, hq, F⟩ := T.d_law_form
  obtain ⟨f_law_draw, fd_law_draw, q_law_draw, K_law_draw, b_law_draw, G_law_draw⟩ := h_law_draw
  obtain ⟨f_law_divisor, fd_law_divisor, q_law_divisor, K_law_divisor, b_law_divisor, G_law_divisor⟩ := h_law_divisor
  obtain ⟨f_law_some, fd_law_some, q_law_some, K_law_some, b_law_some, G_law_some⟩ := h_law_some
  refine ⟨f, fd, hq, F.kp, F.bindsN (fun _ _ _ _ _ _ us hl => match us, hl with | [_, _], _ => rfl), ?_⟩
  refine fn_H F S_law_form fun cdv A outer s H hr hG => ?_
  exact (db_cons (d_set S_law_form.nd l_law_form_2 (fun _ => rfl) (de_op op_add' de_int (d_callH G_law_draw (hr.mono (by decide)) hG g_law_form__law_draw q_law_draw K_law_draw b_law_draw n_law_form_0 (da_cons (d_callH G_law_some (hr.mono (by decide)) hG g_law_form__law_some q_law_some K_law_some b_law_some n_law_form_0 (da_cons (de_of (df_lst (da_cons de_int (da_cons de_int (da_cons (d_nm n_law_form_1) da_nil))))) da_nil) (lenS (lenC lenN)) (nd__law_some)) da_nil) (lenS (lenC lenN)) (nd__law_draw))))
    (db_cons (d_set S_law_form.nd l_law_form_3 (fun _ => rfl) (d_callH G_law_draw (hr.mono (by decide)) hG g_law_form__law_draw q_law_draw K_law_draw b_law_draw n_law_form_0 (da_cons (de_op op_add' (d_nm n_law_form_2) de_int) da_nil) (lenS (lenC lenN)) (nd__law_draw)))
    (db_cons (d_set S_law_form.nd l_law_form_4 (fun _ => rfl) (de_call G_law_divisor (hr.mono (by decide)) hG g_law_form__law_divisor q_law_divisor K_law_divisor b_law_divisor (da_cons (d_nm n_law_form_3) (da_cons (d_nm n_law_form_2) da_nil)) (lenC (lenC lenN)) (nd__law_divisor)))
    (db_cons (ds_par 3 2 rfl S_law_form.nd l_law_form_3.hN l_law_form_2.hN (by decide) o_law_form_3 o_law_form_2 (da_cons (de_op op_div' (d_nm n_law_form_3) (d_nm n_law_form_4)) (da_cons (de_op op_div' (d_nm n_law_form_2) (d_nm n_law_form_4)) da_nil)) (by rfl))
    (db_one (ds_ret (de_tup (da_cons (d_nm n_law_form_3) (da_cons (d_nm n_law_form_2) (da_cons (d_callH G_law_draw (hr.mono (by decide)) hG g_law_form__law_draw q_law_draw K_law_draw b_law_draw n_law_form_0 (da_cons (d_nm n_law_form_2) da_nil) (lenS (lenC lenN)) (nd__law_draw)) da_nil))))))))))
abbrev N_law_rule : List Str := ["hand", "form", "p", "q", "k", "more"]
theorem S_law_rule : FnScope N_law_rule ["hand", "form"] (defScope s_law_rule) := ⟨rfl, rfl, rfl, by decide +kernel, rfl, by decide +kernel, by decide +kernel⟩
theorem n_law_rule_3 : NmOk N_law_rule (defScope s_law_rule) 3 "q" := nmB_ok (by decide +kernel)
theorem n_law_rule_4 : NmOk N_law_rule (defScope s_law_rule) 4 "k" := nmB_ok (by decide +kernel)
theorem n_law_rule_5 : NmOk N_law_rule (defScope s_law_rule) 5 "more" := nmB_ok (by decide +kernel)
theorem g_law_rule__law_fraction : (defScope s_law_rule).names.lookup ("_law_fraction" : Str) = some .globalImplicit := by decide +kernel
theorem n_law_rule_2 : NmOk N_law_rule (defScope s_law_rule) 2 "p" := nmB_ok (by decide +kernel)
theorem g_law_rule__law_some : (defScope s_law_rule).names.lookup ("_law_some" : Str) = some .globalImplicit := by decide +kernel
theorem n_law_rule_0 : NmOk N_law_rule (defScope s_law_rule) 0 "hand" := nmB_ok (by decide +kernel)
theorem l_law_rule_5 : LcOk N_law_rule (defScope s_law_rule) 5 "more" := lcB_ok (by decide +kernel)
theorem n_law_rule_1 : NmOk N_law_rule (defScope s_law_rule) 1 "form" := nmB_ok (by decide +kernel)
theorem l_law_rule_4 : LcOk N_law_rule (defScope s_law_rule) 4 "k" := lcB_ok (by decide +kernel)
theorem l_law_rule_3 : LcOk N_law_rule (defScope s_law_rule) 3 "q" := lcB_ok (by decide +kernel)
theorem l_law_rule_2 : LcOk N_law_rule (defScope s_law_rule) 2 "p" := lcB_ok (by decide +kernel)
def Ok_law_rule (P : Program) (w : World) (K : PySem.W.Frag) (mg : Str → Option Value) (base : Heap) : Prop := ∃ f fd, mg ("_law_rule" : Str) = some (.ref f) ∧ PySem.W.keepIn K (.ref f) = true ∧ Binds K fd ["hand", "form"] [] ∧ FnG P w K mg base 3 f fd ["hand", "form"] (spH K 2 m_law_rule)
theorem ok_law_rule (T : Top K mg) (h_law_fraction : Ok_law_fraction P w K mg base) (h_law_some : Ok_law_some P w K mg base) : Ok_law_rule P w K mg base := by
  obtain ⟨f, fd, hq, F⟩ := T.d_law_rule
  obtain ⟨f_law_fraction, fd_law_fraction, q_law_fraction, K_law_fraction, b_law_fraction, G_law_fraction⟩ := h_law_fraction
  obtain ⟨f_law_some, fd_law_some, q_law_some, K_law_some, b_law_some, G_law_some⟩ := h_law_some
  refine ⟨f, fd, hq, F.kp, F.bindsN (fun _ _ _ _ _ _ us hl => match us, hl with | [_, _], _ => rfl), ?_⟩
  refine fn_H F S_law_rule fun cdv A outer s H hr hG => ?_
  exact (db_cons (ds_asg (d_nm n_law_rule_1) (dg_tup rfl (dgs_cons (d_gnm S_law_rule.nd l_law_rule_2 (fun _ => rfl)) (dgs_cons (d_gnm S_law_rule.nd l_law_rule_3 (fun _ => rfl)) (dgs_cons (d_gnm S_law_rule.nd l_law_rule_4 (fun _ => rfl)) dgs_nil)))))
    (db_cons (d_set S_law_rule.nd l_law_rule_5 (fun _ => rfl) (de_if (dt_cmp op_le' (de_op op_mul' de_int (d_nm n_law_rule_3)) (de_op op_pow' de_int de_int) (nomark _)) (d_callH G_law_some (hr.mono (by decide)) hG g_law_rule__law_some q_law_some K_law_some b_law_some n_law_rule_0 (da_cons (de_of (df_lst (da_cons de_int (da_cons de_int (da_cons de_int (da_cons de_int da_nil)))))) da_nil) (lenS (lenC lenN)) (nd__law_some)) de_int))
    (db_one (ds_ret (de_tup (da_cons (de_tup (da_cons (d_nm n_law_rule_2) (da_cons (d_nm n_law_rule_3) da_nil))) (da_cons (de_call G_law_fraction (hr.mono (by decide)) hG g_law_rule__law_fraction q_law_fraction K_law_fraction b_law_fraction (da_cons (de_op op_add' (de_op op_mul' de_int (d_nm n_law_rule_4)) (d_nm n_law_rule_5)) (da_cons (de_op op_mul' de_int (d_nm n_law_rule_3)) da_nil)) (lenC (lenC lenN)) (nd__law_fraction)) da_nil)))))))
abbrev N_law_derived : List Str := ["form", "p", "q", "k", "d", "c", "top", "by", "bottom"]
theorem S_law_derived : FnScope N_law_derived ["form"] (defScope s_law_derived) := ⟨rfl, rfl, rfl, by decide +kernel, rfl, by decide +kernel, by decide +kernel⟩
theorem n_law_derived_4 : NmOk N_law_derived (defScope s_law_derived) 4 "d" := nmB_ok (by decide +kernel)
theorem n_law_derived_5 : NmOk N_law_derived (defScope s_law_derived) 5 "c" := nmB_ok (by decide +kernel)
theorem n_law_derived_1 : NmOk N_law_derived (defScope s_law_derived) 1 "p" := nmB_ok (by decide +kernel)
theorem n_law_derived_8 : NmOk N_law_derived (defScope s_law_derived) 8 "bottom" := nmB_ok (by decide +kernel)
theorem n_law_derived_6 : NmOk N_law_derived (defScope s_law_derived) 6 "top" := nmB_ok (by decide +kernel)
theorem n_law_derived_7 : NmOk N_law_derived (defScope s_law_derived) 7 "by" := nmB_ok (by decide +kernel)
theorem l_law_derived_8 : LcOk N_law_derived (defScope s_law_derived) 8 "bottom" := lcB_ok (by decide +kernel)
theorem n_law_derived_2 : NmOk N_law_derived (defScope s_law_derived) 2 "q" := nmB_ok (by decide +kernel)
theorem g_law_derived__law_divisor : (defScope s_law_derived).names.lookup ("_law_divisor" : Str) = some .globalImplicit := by decide +kernel
theorem o_law_derived_6 : (defScope s_law_derived).names.lookup ("top" : Str) = some .local := by decide +kernel
theorem o_law_derived_7 : (defScope s_law_derived).names.lookup ("by" : Str) = some .local := by decide +kernel
theorem l_law_derived_6 : LcOk N_law_derived (defScope s_law_derived) 6 "top" := lcB_ok (by decide +kernel)
theorem l_law_derived_7 : LcOk N_law_derived (defScope s_law_derived) 7 "by" := lcB_ok (by decide +kernel)
theorem n_law_derived_3 : NmOk N_law_derived (defScope s_law_derived) 3 "k" := nmB_ok (by decide +kernel)
theorem o_law_derived_4 : (defScope s_law_derived).names.lookup ("d" : Str) = some .local := by decide +kernel
theorem o_law_derived_5 : (defScope s_law_derived).names.lookup ("c" : Str) = some .local := by decide +kernel
theorem l_law_derived_4 : LcOk N_law_derived (defScope s_law_derived) 4 "d" := lcB_ok (by decide +kernel)
theorem l_law_derived_5 : LcOk N_law_derived (defScope s_law_derived) 5 "c" := lcB_ok (by decide +kernel)
theorem n_law_derived_0 : NmOk N_law_derived (defScope s_law_derived) 0 "form" := nmB_ok (by decide +kernel)
theorem l_law_derived_3 : LcOk N_law_derived (defScope s_law_derived) 3 "k" := lcB_ok (by decide +kernel)
theorem l_law_derived_2 : LcOk N_law_derived (defScope s_law_derived) 2 "q" := lcB_ok (by decide +kernel)
theorem l_law_derived_1 : LcOk N_law_derived (defScope s_law_derived) 1 "p" := lcB_ok (by decide +kernel)
def Ok_law_derived (P : Program) (w : World) (K : PySem.W.Frag) (mg : Str → Option Value) (base : Heap) : Prop := ∃ f fd, mg ("_law_derived" : Str) = some (.ref f) ∧ PySem.W.keepIn K (.ref f) = true ∧ Binds K fd ["form"] [] ∧ FnG P w K mg base 2 f fd ["form"] (spD K 1 m_law_derived)
theorem ok_law_derived (T : Top K mg) (h_law_divisor : Ok_law_divisor P w K mg base) : Ok_law_derived P w K mg base := by
  obtain ⟨f, fd, hq, F⟩ := T.d_law_derived
  obtain ⟨f_law_divisor, fd_law_divisor, q_law_divisor, K_law_divisor, b_law_divisor, G_law_divisor⟩ := h_law_divisor
  refine ⟨f, fd, hq, F.kp, F.bindsN (fun _ _ _ _ _ _ us hl => match us, hl with | [_], _ => rfl), ?_⟩
  refine fn_D F S_law_derived fun cdv A outer s H hr hG => ?_
  exact (db_cons (ds_asg (d_nm n_law_derived_0) (dg_tup rfl (dgs_cons (d_gnm S_law_derived.nd l_law_derived_1 (fun _ => rfl)) (dgs_cons (d_gnm S_law_derived.nd l_law_derived_2 (fun _ => rfl)) (dgs_cons (d_gnm S_law_derived.nd l_law_derived_3 (fun _ => rfl)) dgs_nil)))))
    (db_cons (ds_par 4 5 rfl S_law_derived.nd l_law_derived_4.hN l_law_derived_5.hN (by decide) o_law_derived_4 o_law_derived_5 (da_cons (de_op op_div' (d_nm n_law_derived_2) (d_nm n_law_derived_1)) (da_cons (de_op op_sub' (de_op op_sub' (d_nm n_law_derived_2) (d_nm n_law_derived_3)) de_int) da_nil)) (by rfl))
    (db_cons (ds_par 6 7 rfl S_law_derived.nd l_law_derived_6.hN l_law_derived_7.hN (by decide) o_law_derived_6 o_law_derived_7 (da_cons (de_op op_sub' (d_nm n_law_derived_2) (de_op op_mul' (d_nm n_law_derived_4) (d_nm n_law_derived_1))) (da_cons (de_call G_law_divisor (hr.mono (by decide)) hG g_law_derived__law_divisor q_law_divisor K_law_divisor b_law_divisor (da_cons (de_op op_sub' (d_nm n_law_derived_2) (de_op op_mul' (d_nm n_law_derived_4) (d_nm n_law_derived_1))) (da_cons (d_nm n_law_derived_1) da_nil)) (lenC (lenC lenN)) (nd__law_divisor)) da_nil)) (by rfl))
    (db_cons (d_set S_law_derived.nd l_law_derived_8 (fun _ => rfl) (de_op op_div' (d_nm n_law_derived_1) (d_nm n_law_derived_7)))
    (db_one (ds_ret (de_tup (da_cons (de_tup (da_cons (de_op op_div' (d_nm n_law_derived_6) (d_nm n_law_derived_7)) (da_cons (d_nm n_law_derived_8) (da_cons (de_op op_div' (de_op op_mul' (de_op op_sub' (d_nm n_law_derived_5) (de_op op_mul' (d_nm n_law_derived_1) (de_op op_div' (d_nm n_law_derived_5) (d_nm n_law_derived_1)))) (d_nm n_law_derived_8)) (d_nm n_law_derived_1)) da_nil)))) (da_cons (d_nm n_law_derived_4) da_nil)))))))))
abbrev N_law_are_distances_right : List Str := ["hand", "form", "rule", "other", "d", "first", "days", "signs", "some", "far", "at", "sooner", "later"]
theorem S_law_are_distances_right : FnScope N_law_are_distances_right ["hand", "form"] (defScope s_law_are_distances_right) := ⟨rfl, rfl, rfl, by decide +kernel, rfl, by decide +kernel, by decide +kernel⟩
abbrev c_law_are_distances_right_1 : Scope := ({ kind := .function, names := [(Str.ofString ".0", .local), (Str.ofString "sooner", .local), (Str.ofString "later", .local)], isGenerator := false, isCoroutine := false, more := [] } : Scope)
abbrev c_law_are_distances_right_2 : Scope := ({ kind := .function, names := [(Str.ofString ".0", .local), (Str.ofString "sooner", .local), (Str.ofString "later", .local), (Str.ofString "str", .globalImplicit), (Str.ofString "d", .free)], isGenerator := false, isCoroutine := false, more := [] } : Scope)
abbrev c_law_are_distances_right_3 : Scope := ({ kind := .function, names := [(Str.ofString ".0", .local), (Str.ofString "at", .local), (Str.ofString "nth_duty", .globalImplicit), (Str.ofString "first", .free), (Str.ofString "rule", .free)], isGenerator := false, isCoroutine := false, more := [] } : Scope)
theorem g_law_are_distances_right__law_draw : (defScope s_law_are_distances_right).names.lookup ("_law_draw" : Str) = some .globalImplicit := by decide +kernel
theorem n_law_are_distances_right_0 : NmOk N_law_are_distances_right (defScope s_law_are_distances_right) 0 "hand" := nmB_ok (by decide +kernel)
theorem l_law_are_distances_right_5 : LcOk N_law_are_distances_right (defScope s_law_are_distances_right) 5 "first" := lcB_ok (by decide +kernel)
theorem n_law_are_distances_right_9 : NmOk N_law_are_distances_right (defScope s_law_are_distances_right) 9 "far" := nmB_ok (by decide +kernel)
theorem g_law_are_distances_right_max : (defScope s_law_are_distances_right).names.lookup ("max" : Str) = some .globalImplicit := by decide +kernel
theorem g_law_are_distances_right_min : (defScope s_law_are_distances_right).names.lookup ("min" : Str) = some .globalImplicit := by decide +kernel
theorem n_law_are_distances_right_8 : NmOk N_law_are_distances_right (defScope s_law_are_distances_right) 8 "some" := nmB_ok (by decide +kernel)
theorem n_law_are_distances_right_1 : NmOk N_law_are_distances_right (defScope s_law_are_distances_right) 1 "form" := nmB_ok (by decide +kernel)
theorem n_law_are_distances_right_6 : NmOk N_law_are_distances_right (defScope s_law_are_distances_right) 6 "days" := nmB_ok (by decide +kernel)
theorem g_law_are_distances_right_zip : (defScope s_law_are_distances_right).names.lookup ("zip" : Str) = some .globalImplicit := by decide +kernel
theorem l_law_are_distances_right_b1_12 : LcOk N_law_are_distances_right (relS c_law_are_distances_right_1 (defScope s_law_are_distances_right)) 12 "later" := lcB_ok (by decide +kernel)
theorem o_law_are_distances_right_b1_12 : (relS c_law_are_distances_right_1 (defScope s_law_are_distances_right)).names.lookup ("later" : Str) = some .local := by decide +kernel
theorem l_law_are_distances_right_b1_11 : LcOk N_law_are_distances_right (relS c_law_are_distances_right_1 (defScope s_law_are_distances_right)) 11 "sooner" := lcB_ok (by decide +kernel)
theorem o_law_are_distances_right_b1_11 : (relS c_law_are_distances_right_1 (defScope s_law_are_distances_right)).names.lookup ("sooner" : Str) = some .local := by decide +kernel
theorem n_law_are_distances_right_b1_12 : NmOk N_law_are_distances_right (relS c_law_are_distances_right_1 (defScope s_law_are_distances_right)) 12 "later" := nmB_ok (by decide +kernel)
theorem n_law_are_distances_right_b1_11 : NmOk N_law_are_distances_right (relS c_law_are_distances_right_1 (defScope s_law_are_distances_right)) 11 "sooner" := nmB_ok (by decide +kernel)
theorem l_law_are_distances_right_9 : LcOk N_law_are_distances_right (defScope s_law_are_distances_right) 9 "far" := lcB_ok (by decide +kernel)
theorem o_law_are_distances_right_9 : (defScope s_law_are_distances_right).names.lookup ("far" : Str) = some .local := by decide +kernel
theorem l_law_are_distances_right_8 : LcOk N_law_are_distances_right (defScope s_law_are_distances_right) 8 "some" := lcB_ok (by decide +kernel)
theorem n_law_are_distances_right_7 : NmOk N_law_are_distances_right (defScope s_law_are_distances_right) 7 "signs" := nmB_ok (by decide +kernel)
theorem n_law_are_distances_right_5 : NmOk N_law_are_distances_right (defScope s_law_are_distances_right) 5 "first" := nmB_ok (by decide +kernel)
theorem n_law_are_distances_right_3 : NmOk N_law_are_distances_right (defScope s_law_are_distances_right) 3 "other" := nmB_ok (by decide +kernel)
theorem g_law_are_distances_right_rule_of : (defScope s_law_are_distances_right).names.lookup ("rule_of" : Str) = some .globalImplicit := by decide +kernel
theorem g_law_are_distances_right_made : (defScope s_law_are_distances_right).names.lookup ("made" : Str) = some .globalImplicit := by decide +kernel
theorem l_law_are_distances_right_b2_12 : LcOk N_law_are_distances_right (relS c_law_are_distances_right_2 (defScope s_law_are_distances_right)) 12 "later" := lcB_ok (by decide +kernel)
theorem o_law_are_distances_right_b2_12 : (relS c_law_are_distances_right_2 (defScope s_law_are_distances_right)).names.lookup ("later" : Str) = some .local := by decide +kernel
theorem l_law_are_distances_right_b2_11 : LcOk N_law_are_distances_right (relS c_law_are_distances_right_2 (defScope s_law_are_distances_right)) 11 "sooner" := lcB_ok (by decide +kernel)
theorem o_law_are_distances_right_b2_11 : (relS c_law_are_distances_right_2 (defScope s_law_are_distances_right)).names.lookup ("sooner" : Str) = some .local := by decide +kernel
theorem n_law_are_distances_right_b2_12 : NmOk N_law_are_distances_right (relS c_law_are_distances_right_2 (defScope s_law_are_distances_right)) 12 "later" := nmB_ok (by decide +kernel)
theorem n_law_are_distances_right_b2_11 : NmOk N_law_are_distances_right (relS c_law_are_distances_right_2 (defScope s_law_are_distances_right)) 11 "sooner" := nmB_ok (by decide +kernel)
theorem n_law_are_distances_right_b2_4 : NmOk N_law_are_distances_right (relS c_law_are_distances_right_2 (defScope s_law_are_distances_right)) 4 "d" := nmB_ok (by decide +kernel)
theorem g_law_are_distances_right_b2_str : (relS c_law_are_distances_right_2 (defScope s_law_are_distances_right)).names.lookup ("str" : Str) = some .globalImplicit := by decide +kernel
theorem l_law_are_distances_right_7 : LcOk N_law_are_distances_right (defScope s_law_are_distances_right) 7 "signs" := lcB_ok (by decide +kernel)
theorem g_law_are_distances_right_range : (defScope s_law_are_distances_right).names.lookup ("range" : Str) = some .globalImplicit := by decide +kernel
theorem l_law_are_distances_right_b3_10 : LcOk N_law_are_distances_right (relS c_law_are_distances_right_3 (defScope s_law_are_distances_right)) 10 "at" := lcB_ok (by decide +kernel)
theorem o_law_are_distances_right_b3_10 : (relS c_law_are_distances_right_3 (defScope s_law_are_distances_right)).names.lookup ("at" : Str) = some .local := by decide +kernel
theorem n_law_are_distances_right_b3_5 : NmOk N_law_are_distances_right (relS c_law_are_distances_right_3 (defScope s_law_are_distances_right)) 5 "first" := nmB_ok (by decide +kernel)
theorem n_law_are_distances_right_b3_10 : NmOk N_law_are_distances_right (relS c_law_are_distances_right_3 (defScope s_law_are_distances_right)) 10 "at" := nmB_ok (by decide +kernel)
theorem n_law_are_distances_right_b3_2 : NmOk N_law_are_distances_right (relS c_law_are_distances_right_3 (defScope s_law_are_distances_right)) 2 "rule" := nmB_ok (by decide +kernel)
theorem g_law_are_distances_right_b3_nth_duty : (relS c_law_are_distances_right_3 (defScope s_law_are_distances_right)).names.lookup ("nth_duty" : Str) = some .globalImplicit := by decide +kernel
theorem l_law_are_distances_right_6 : LcOk N_law_are_distances_right (defScope s_law_are_distances_right) 6 "days" := lcB_ok (by decide +kernel)
theorem o_law_are_distances_right_6 : (defScope s_law_are_distances_right).names.lookup ("days" : Str) = some .local := by decide +kernel
theorem g_law_are_distances_right__law_derived : (defScope s_law_are_distances_right).names.lookup ("_law_derived" : Str) = some .globalImplicit := by decide +kernel
theorem l_law_are_distances_right_4 : LcOk N_law_are_distances_right (defScope s_law_are_distances_right) 4 "d" := lcB_ok (by decide +kernel)
theorem l_law_are_distances_right_3 : LcOk N_law_are_distances_right (defScope s_law_are_distances_right) 3 "other" := lcB_ok (by decide +kernel)
theorem g_law_are_distances_right__law_rule : (defScope s_law_are_distances_right).names.lookup ("_law_rule" : Str) = some .globalImplicit := by decide +kernel
theorem l_law_are_distances_right_2 : LcOk N_law_are_distances_right (defScope s_law_are_distances_right) 2 "rule" := lcB_ok (by decide +kernel)
def Ok_law_are_distances_right (P : Program) (w : World) (K : PySem.W.Frag) (mg : Str → Option Value) (base : Heap) : Prop := ∃ f fd, mg ("_law_are_distances_right" : Str) = some (.ref f) ∧ PySem.W.keepIn K (.ref f) = true ∧ Binds K fd ["hand", "form"] [] ∧ FnG P w K mg base 7 f fd ["hand", "form"] (spH K 2 m_law_are_distances_right)
theorem ok_law_are_distances_right (T : Top K mg) (h_law_draw : Ok_law_draw P w K mg base) (h_made : Ok_made P w K mg base) (h_rule_of : Ok_rule_of P w K mg base) (h_nth_duty : Ok_nth_duty P w K mg base) (h_law_derived : Ok_law_derived P w K mg base) (h_law_rule : Ok_law_rule P w K mg base) : Ok_law_are_distances_right P w K mg base := by
  obtain ⟨f, fd, hq, F⟩ := T.d_law_are_distances_right
  obtain ⟨f_law_draw, fd_law_draw, q_law_draw, K_law_draw, b_law_draw, G_law_draw⟩ := h_law_draw
  obtain ⟨f_made, fd_made, q_made, K_made, b_made, G_made⟩ := h_made
  obtain ⟨f_rule_of, fd_rule_of, q_rule_of, K_rule_of, b_rule_of, G_rule_of⟩ := h_rule_of
  obtain ⟨f_nth_duty, fd_nth_duty, q_nth_duty, K_nth_duty, b_nth_duty, G_nth_duty⟩ := h_nth_duty
  obtain ⟨f_law_derived, fd_law_derived, q_law_derived, K_law_derived, b_law_derived, G_law_derived⟩ := h_law_derived
  obtain ⟨f_law_rule, fd_law_rule, q_law_rule, K_law_rule, b_law_rule, G_law_rule⟩ := h_law_rule
  have z_max := T.z_max
  have z_min := T.z_min
  have z_zip := T.z_zip
  have z_str := T.z_str
  have z_range := T.z_range
  refine ⟨f, fd, hq, F.kp, F.bindsN (fun _ _ _ _ _ _ us hl => match us, hl with | [_, _], _ => rfl), ?_⟩
  refine fn_H F S_law_are_distances_right fun cdv A outer s H hr hG => ?_
  exact (db_cons (d_set S_law_are_distances_right.nd l_law_are_distances_right_2 (fun _ => rfl) (d_callH G_law_rule (hr.mono (by decide)) hG g_law_are_distances_right__law_rule q_law_rule K_law_rule b_law_rule n_law_are_distances_right_0 (da_cons (d_nm n_law_are_distances_right_1) da_nil) (lenS (lenC lenN)) (nd__law_rule)))
    (db_cons (ds_asg (de_call G_law_derived (hr.mono (by decide)) hG g_law_are_distances_right__law_derived q_law_derived K_law_derived b_law_derived (da_cons (d_nm n_law_are_distances_right_1) da_nil) (lenC lenN) (nd__law_derived)) (dg_tup rfl (dgs_cons (d_gnm S_law_are_distances_right.nd l_law_are_distances_right_3 (fun _ => rfl)) (dgs_cons (d_gnm S_law_are_distances_right.nd l_law_are_distances_right_4 (fun _ => rfl)) dgs_nil))))
    (db_cons (ds_for PassesOwn.never rfl (di_any (de_tup (da_cons de_int (da_cons (d_callH G_law_draw (hr.mono (by decide)) hG g_law_are_distances_right__law_draw q_law_draw K_law_draw b_law_draw n_law_are_distances_right_0 (da_cons de_int da_nil) (lenS (lenC lenN)) (nd__law_draw)) (da_cons (d_callH G_law_draw (hr.mono (by decide)) hG g_law_are_distances_right__law_draw q_law_draw K_law_draw b_law_draw n_law_are_distances_right_0 (da_cons (de_op op_pow' de_int de_int) da_nil) (lenS (lenC lenN)) (nd__law_draw)) da_nil))))) (d_gnm S_law_are_distances_right.nd l_law_are_distances_right_5 (fun _ => rfl)) (db_cons (ds_setLc 6 (own := [("at", 10)]) rfl S_law_are_distances_right.nd l_law_are_distances_right_6.hN o_law_are_distances_right_6 (sw_true rfl rfl rfl (by decide +kernel)) (di_rg1 g_law_are_distances_right_range z_range (da_cons de_int da_nil)) (blkOk_by (N := N_law_are_distances_right) (sc := defScope s_law_are_distances_right) (by decide +kernel)) (fun _ _ _ _ _ => (d_gcnm S_law_are_distances_right.nd l_law_are_distances_right_b3_10 o_law_are_distances_right_b3_10 (by decide))) (fun _ _ _ _ _ => dts_nil) (fun _ _ _ _ _ => (de_call G_nth_duty (hr.mono (by decide)) hG g_law_are_distances_right_b3_nth_duty q_nth_duty K_nth_duty b_nth_duty (da_cons (d_nm n_law_are_distances_right_b3_2) (da_cons (de_op op_add' (d_nm n_law_are_distances_right_b3_5) (d_nm n_law_are_distances_right_b3_10)) da_nil)) (lenC (lenC lenN)) (nd_nth_duty))))
    (db_cons (d_set S_law_are_distances_right.nd l_law_are_distances_right_7 (fun _ => rfl) (de_meth PySem.F.plainAttrs_str PySem.F.slot_str_join PySem.F.type_str_join mt_join' de_str (da_cons (de_of (df_lc (own := [("sooner", 11), ("later", 12)]) rfl S_law_are_distances_right.nd (di_zip g_law_are_distances_right_zip z_zip (da_cons (d_nm n_law_are_distances_right_6) (da_cons (de_sl sl' (d_nm n_law_are_distances_right_6) (do_some de_int) do_none) da_nil))) (blkOk_by (N := N_law_are_distances_right) (sc := defScope s_law_are_distances_right) (by decide +kernel)) (fun _ _ _ _ _ => (dgc_tup rfl (dgsc_cons (d_gcnm S_law_are_distances_right.nd l_law_are_distances_right_b2_11 o_law_are_distances_right_b2_11 (by decide)) (dgsc_cons (d_gcnm S_law_are_distances_right.nd l_law_are_distances_right_b2_12 o_law_are_distances_right_b2_12 (by decide)) dgsc_nil)))) (fun _ _ _ _ _ => dts_nil) (fun _ _ _ _ _ => (de_callTy call_str' g_law_are_distances_right_b2_str z_str bt_str (da_cons (de_op op_sub' (de_op op_sub' (d_nm n_law_are_distances_right_b2_12) (d_nm n_law_are_distances_right_b2_11)) (d_nm n_law_are_distances_right_b2_4)) da_nil))))) da_nil) ty_join))
    (db_cons (ds_if (dt_cmp (op_ne' (hu64 hr)) (d_nm n_law_are_distances_right_7) (de_call G_made (hr.mono (by decide)) hG g_law_are_distances_right_made q_made K_made b_made (da_cons (de_call G_rule_of (hr.mono (by decide)) hG g_law_are_distances_right_rule_of q_rule_of K_rule_of b_rule_of (da_cons (d_nm n_law_are_distances_right_3) da_nil) (lenC lenN) (nd_rule_of)) (da_cons (d_nm n_law_are_distances_right_5) (da_cons de_int da_nil))) (lenC (lenC (lenC lenN))) (nd_made)) (nomark _)) (db_one (ds_ret de_bool)) db_nil)
    (db_cons (d_set S_law_are_distances_right.nd l_law_are_distances_right_8 (fun _ => rfl) (de_op op_add' de_int (d_callH G_law_draw (hr.mono (by decide)) hG g_law_are_distances_right__law_draw q_law_draw K_law_draw b_law_draw n_law_are_distances_right_0 (da_cons de_int da_nil) (lenS (lenC lenN)) (nd__law_draw))))
    (db_cons (ds_setLc 9 (own := [("sooner", 11), ("later", 12)]) rfl S_law_are_distances_right.nd l_law_are_distances_right_9.hN o_law_are_distances_right_9 (sw_true rfl rfl rfl (by decide +kernel)) (di_zip g_law_are_distances_right_zip z_zip (da_cons (d_nm n_law_are_distances_right_6) (da_cons (de_sl sl' (d_nm n_law_are_distances_right_6) (do_some (d_nm n_law_are_distances_right_8)) do_none) da_nil))) (blkOk_by (N := N_law_are_distances_right) (sc := defScope s_law_are_distances_right) (by decide +kernel)) (fun _ _ _ _ _ => (dgc_tup rfl (dgsc_cons (d_gcnm S_law_are_distances_right.nd l_law_are_distances_right_b1_11 o_law_are_distances_right_b1_11 (by decide)) (dgsc_cons (d_gcnm S_law_are_distances_right.nd l_law_are_distances_right_b1_12 o_law_are_distances_right_b1_12 (by decide)) dgsc_nil)))) (fun _ _ _ _ _ => dts_nil) (fun _ _ _ _ _ => (de_op op_sub' (d_nm n_law_are_distances_right_b1_12) (d_nm n_law_are_distances_right_b1_11))))
    (db_one (ds_if (dt_w (dw_or (dt_cmp op_gt' (de_op op_sub' (de_callB (call_max' rfl) g_law_are_distances_right_max z_max bt_max (da_cons (d_nm n_law_are_distances_right_9) da_nil)) (de_callB (call_min' rfl) g_law_are_distances_right_min z_min bt_min (da_cons (d_nm n_law_are_distances_right_9) da_nil))) de_int (nomark _)) (dw_or1 (dt_cmp op_lt' (de_callB (call_min' rfl) g_law_are_distances_right_min z_min bt_min (da_cons (d_nm n_law_are_distances_right_9) da_nil)) (de_op op_div' (de_op op_mul' (d_nm n_law_are_distances_right_8) (de_ix ix' (d_nm n_law_are_distances_right_1) de_int (fun _ _ => rfl))) (de_ix ix' (d_nm n_law_are_distances_right_1) de_int (fun _ _ => rfl))) (nomark _))))) (db_one (ds_ret de_bool)) db_nil))))))))
    (db_one (ds_ret de_bool)))))
abbrev N_law_is_round_right : List Str := ["form", "p", "q", "k", "first", "row", "other", "d", "told", "numbers", "here", "word", "stages", "sign", "one"]
theorem S_law_is_round_right : FnScope N_law_is_round_right ["form"] (defScope s_law_is_round_right) := ⟨rfl, rfl, rfl, by decide +kernel, rfl, by decide +kernel, by decide +kernel⟩
abbrev c_law_is_round_right_1 : Scope := ({ kind := .function, names := [(Str.ofString ".0", .local), (Str.ofString "one", .local)], isGenerator := false, isCoroutine := false, more := [] } : Scope)
abbrev c_law_is_round_right_2 : Scope := ({ kind := .function, names := [(Str.ofString ".0", .local), (Str.ofString "sign", .local), (Str.ofString "int", .globalImplicit), (Str.ofString "d", .free)], isGenerator := false, isCoroutine := false, more := [] } : Scope)
theorem n_law_is_round_right_11 : NmOk N_law_is_round_right (defScope s_law_is_round_right) 11 "word" := nmB_ok (by decide +kernel)
theorem n_law_is_round_right_12 : NmOk N_law_is_round_right (defScope s_law_is_round_right) 12 "stages" := nmB_ok (by decide +kernel)
theorem l_law_is_round_right_b1_14 : LcOk N_law_is_round_right (relS c_law_is_round_right_1 (defScope s_law_is_round_right)) 14 "one" := lcB_ok (by decide +kernel)
theorem o_law_is_round_right_b1_14 : (relS c_law_is_round_right_1 (defScope s_law_is_round_right)).names.lookup ("one" : Str) = some .local := by decide +kernel
theorem n_law_is_round_right_b1_14 : NmOk N_law_is_round_right (relS c_law_is_round_right_1 (defScope s_law_is_round_right)) 14 "one" := nmB_ok (by decide +kernel)
theorem n_law_is_round_right_9 : NmOk N_law_is_round_right (defScope s_law_is_round_right) 9 "numbers" := nmB_ok (by decide +kernel)
theorem n_law_is_round_right_5 : NmOk N_law_is_round_right (defScope s_law_is_round_right) 5 "row" := nmB_ok (by decide +kernel)
theorem g_law_is_round_right_ladder : (defScope s_law_is_round_right).names.lookup ("ladder" : Str) = some .globalImplicit := by decide +kernel
theorem l_law_is_round_right_12 : LcOk N_law_is_round_right (defScope s_law_is_round_right) 12 "stages" := lcB_ok (by decide +kernel)
theorem l_law_is_round_right_11 : LcOk N_law_is_round_right (defScope s_law_is_round_right) 11 "word" := lcB_ok (by decide +kernel)
theorem n_law_is_round_right_10 : NmOk N_law_is_round_right (defScope s_law_is_round_right) 10 "here" := nmB_ok (by decide +kernel)
theorem l_law_is_round_right_10 : LcOk N_law_is_round_right (defScope s_law_is_round_right) 10 "here" := lcB_ok (by decide +kernel)
theorem o_law_is_round_right_9 : (defScope s_law_is_round_right).names.lookup ("numbers" : Str) = some .local := by decide +kernel
theorem o_law_is_round_right_10 : (defScope s_law_is_round_right).names.lookup ("here" : Str) = some .local := by decide +kernel
theorem l_law_is_round_right_9 : LcOk N_law_is_round_right (defScope s_law_is_round_right) 9 "numbers" := lcB_ok (by decide +kernel)
theorem n_law_is_round_right_2 : NmOk N_law_is_round_right (defScope s_law_is_round_right) 2 "q" := nmB_ok (by decide +kernel)
theorem n_law_is_round_right_1 : NmOk N_law_is_round_right (defScope s_law_is_round_right) 1 "p" := nmB_ok (by decide +kernel)
theorem g_law_is_round_right_gaps_of : (defScope s_law_is_round_right).names.lookup ("gaps_of" : Str) = some .globalImplicit := by decide +kernel
theorem n_law_is_round_right_8 : NmOk N_law_is_round_right (defScope s_law_is_round_right) 8 "told" := nmB_ok (by decide +kernel)
theorem l_law_is_round_right_b2_13 : LcOk N_law_is_round_right (relS c_law_is_round_right_2 (defScope s_law_is_round_right)) 13 "sign" := lcB_ok (by decide +kernel)
theorem o_law_is_round_right_b2_13 : (relS c_law_is_round_right_2 (defScope s_law_is_round_right)).names.lookup ("sign" : Str) = some .local := by decide +kernel
theorem n_law_is_round_right_b2_7 : NmOk N_law_is_round_right (relS c_law_is_round_right_2 (defScope s_law_is_round_right)) 7 "d" := nmB_ok (by decide +kernel)
theorem n_law_is_round_right_b2_13 : NmOk N_law_is_round_right (relS c_law_is_round_right_2 (defScope s_law_is_round_right)) 13 "sign" := nmB_ok (by decide +kernel)
theorem g_law_is_round_right_b2_int : (relS c_law_is_round_right_2 (defScope s_law_is_round_right)).names.lookup ("int" : Str) = some .globalImplicit := by decide +kernel
theorem g_law_is_round_right_tuple : (defScope s_law_is_round_right).names.lookup ("tuple" : Str) = some .globalImplicit := by decide +kernel
theorem n_law_is_round_right_7 : NmOk N_law_is_round_right (defScope s_law_is_round_right) 7 "d" := nmB_ok (by decide +kernel)
theorem n_law_is_round_right_6 : NmOk N_law_is_round_right (defScope s_law_is_round_right) 6 "other" := nmB_ok (by decide +kernel)
theorem g_law_is_round_right_rule_of : (defScope s_law_is_round_right).names.lookup ("rule_of" : Str) = some .globalImplicit := by decide +kernel
theorem g_law_is_round_right_made : (defScope s_law_is_round_right).names.lookup ("made" : Str) = some .globalImplicit := by decide +kernel
theorem g_law_is_round_right_derived : (defScope s_law_is_round_right).names.lookup ("derived" : Str) = some .globalImplicit := by decide +kernel
theorem l_law_is_round_right_8 : LcOk N_law_is_round_right (defScope s_law_is_round_right) 8 "told" := lcB_ok (by decide +kernel)
theorem n_law_is_round_right_0 : NmOk N_law_is_round_right (defScope s_law_is_round_right) 0 "form" := nmB_ok (by decide +kernel)
theorem g_law_is_round_right__law_derived : (defScope s_law_is_round_right).names.lookup ("_law_derived" : Str) = some .globalImplicit := by decide +kernel
theorem l_law_is_round_right_7 : LcOk N_law_is_round_right (defScope s_law_is_round_right) 7 "d" := lcB_ok (by decide +kernel)
theorem l_law_is_round_right_6 : LcOk N_law_is_round_right (defScope s_law_is_round_right) 6 "other" := lcB_ok (by decide +kernel)
theorem n_law_is_round_right_4 : NmOk N_law_is_round_right (defScope s_law_is_round_right) 4 "first" := nmB_ok (by decide +kernel)
theorem n_law_is_round_right_3 : NmOk N_law_is_round_right (defScope s_law_is_round_right) 3 "k" := nmB_ok (by decide +kernel)
theorem g_law_is_round_right__law_made : (defScope s_law_is_round_right).names.lookup ("_law_made" : Str) = some .globalImplicit := by decide +kernel
theorem l_law_is_round_right_5 : LcOk N_law_is_round_right (defScope s_law_is_round_right) 5 "row" := lcB_ok (by decide +kernel)
theorem l_law_is_round_right_4 : LcOk N_law_is_round_right (defScope s_law_is_round_right) 4 "first" := lcB_ok (by decide +kernel)
theorem l_law_is_round_right_3 : LcOk N_law_is_round_right (defScope s_law_is_round_right) 3 "k" := lcB_ok (by decide +kernel)
theorem l_law_is_round_right_2 : LcOk N_law_is_round_right (defScope s_law_is_round_right) 2 "q" := lcB_ok (by decide +kernel)
theorem l_law_is_round_right_1 : LcOk N_law_is_round_right (defScope s_law_is_round_right) 1 "p" := lcB_ok (by decide +kernel)
def Ok_law_is_round_right (P : Program) (w : World) (K : PySem.W.Frag) (mg : Str → Option Value) (base : Heap) : Prop := ∃ f fd, mg ("_law_is_round_right" : Str) = some (.ref f) ∧ PySem.W.keepIn K (.ref f) = true ∧ Binds K fd ["form"] [] ∧ FnG P w K mg base 7 f fd ["form"] (spD K 1 m_law_is_round_right)
theorem ok_law_is_round_right (T : Top K mg) (h_ladder : Ok_ladder P w K mg base) (h_gaps_of : Ok_gaps_of P w K mg base) (h_made : Ok_made P w K mg base) (h_rule_of : Ok_rule_of P w K mg base) (h_derived : Ok_derived P w K mg base) (h_law_derived : Ok_law_derived P w K mg base) (h_law_made : Ok_law_made P w K mg base) : Ok_law_is_round_right P w K mg base := by
  obtain ⟨f, fd, hq, F⟩ := T.d_law_is_round_right
  obtain ⟨f_ladder, fd_ladder, q_ladder, K_ladder, b_ladder, G_ladder⟩ := h_ladder
  obtain ⟨f_gaps_of, fd_gaps_of, q_gaps_of, K_gaps_of, b_gaps_of, G_gaps_of⟩ := h_gaps_of
  obtain ⟨f_made, fd_made, q_made, K_made, b_made, G_made⟩ := h_made
  obtain ⟨f_rule_of, fd_rule_of, q_rule_of, K_rule_of, b_rule_of, G_rule_of⟩ := h_rule_of
  obtain ⟨f_derived, fd_derived, q_derived, K_derived, b_derived, G_derived⟩ := h_derived
  obtain ⟨f_law_derived, fd_law_derived, q_law_derived, K_law_derived, b_law_derived, G_law_derived⟩ := h_law_derived
  obtain ⟨f_law_made, fd_law_made, q_law_made, K_law_made, b_law_made, G_law_made⟩ := h_law_made
  have z_int := T.z_int
  have z_tuple := T.z_tuple
  refine ⟨f, fd, hq, F.kp, F.bindsN (fun _ _ _ _ _ _ us hl => match us, hl with | [_], _ => rfl), ?_⟩
  refine fn_D F S_law_is_round_right fun cdv A outer s H hr hG => ?_
  exact (db_cons (ds_asg (d_nm n_law_is_round_right_0) (dg_tup rfl (dgs_cons (d_gnm S_law_is_round_right.nd l_law_is_round_right_1 (fun _ => rfl)) (dgs_cons (d_gnm S_law_is_round_right.nd l_law_is_round_right_2 (fun _ => rfl)) (dgs_cons (d_gnm S_law_is_round_right.nd l_law_is_round_right_3 (fun _ => rfl)) dgs_nil)))))
    (db_cons (d_set S_law_is_round_right.nd l_law_is_round_right_4 (fun _ => rfl) (de_op op_div' (de_op op_sub' (de_op op_sub' (d_nm n_law_is_round_right_2) (d_nm n_law_is_round_right_3)) de_int) (d_nm n_law_is_round_right_1)))
    (db_cons (d_set S_law_is_round_right.nd l_law_is_round_right_5 (fun _ => rfl) (de_call G_law_made (hr.mono (by decide)) hG g_law_is_round_right__law_made q_law_made K_law_made b_law_made (da_cons (d_nm n_law_is_round_right_1) (da_cons (d_nm n_law_is_round_right_2) (da_cons (d_nm n_law_is_round_right_3) (da_cons (d_nm n_law_is_round_right_4) (da_cons (d_nm n_law_is_round_right_2) da_nil))))) (lenC (lenC (lenC (lenC (lenC lenN))))) (nd__law_made)))
    (db_cons (ds_asg (de_call G_law_derived (hr.mono (by decide)) hG g_law_is_round_right__law_derived q_law_derived K_law_derived b_law_derived (da_cons (d_nm n_law_is_round_right_0) da_nil) (lenC lenN) (nd__law_derived)) (dg_tup rfl (dgs_cons (d_gnm S_law_is_round_right.nd l_law_is_round_right_6 (fun _ => rfl)) (dgs_cons (d_gnm S_law_is_round_right.nd l_law_is_round_right_7 (fun _ => rfl)) dgs_nil))))
    (db_cons (d_set S_law_is_round_right.nd l_law_is_round_right_8 (fun _ => rfl) (de_call G_derived (hr.mono (by decide)) hG g_law_is_round_right_derived q_derived K_derived b_derived (da_cons (d_nm n_law_is_round_right_5) da_nil) (lenC lenN) (nd_derived)))
    (db_cons (ds_if (dt_cmp (op_ne' (hu64 hr)) (d_nm n_law_is_round_right_8) (de_tup (da_cons (de_call G_made (hr.mono (by decide)) hG g_law_is_round_right_made q_made K_made b_made (da_cons (de_call G_rule_of (hr.mono (by decide)) hG g_law_is_round_right_rule_of q_rule_of K_rule_of b_rule_of (da_cons (d_nm n_law_is_round_right_6) da_nil) (lenC lenN) (nd_rule_of)) (da_cons de_int (da_cons (d_nm n_law_is_round_right_1) da_nil))) (lenC (lenC (lenC lenN))) (nd_made)) (da_cons (d_nm n_law_is_round_right_7) da_nil))) (nomark _)) (db_one (ds_ret de_bool)) db_nil)
    (db_cons (ds_if (dt_cmp (op_ne' (hu64 hr)) (de_call G_gaps_of (hr.mono (by decide)) hG g_law_is_round_right_gaps_of q_gaps_of K_gaps_of b_gaps_of (da_cons (d_nm n_law_is_round_right_5) da_nil) (lenC lenN) (nd_gaps_of)) (de_callTy call_tuple' g_law_is_round_right_tuple z_tuple bt_tuple (da_cons (de_of (df_lc (own := [("sign", 13)]) rfl S_law_is_round_right.nd (di_any (de_ix ix' (d_nm n_law_is_round_right_8) de_int (fun _ _ => rfl))) (blkOk_by (N := N_law_is_round_right) (sc := defScope s_law_is_round_right) (by decide +kernel)) (fun _ _ _ _ _ => (d_gcnm S_law_is_round_right.nd l_law_is_round_right_b2_13 o_law_is_round_right_b2_13 (by decide))) (fun _ _ _ _ _ => dts_nil) (fun _ _ _ _ _ => (de_op op_add' (d_nm n_law_is_round_right_b2_7) (de_callTy call_int' g_law_is_round_right_b2_int z_int bt_int (da_cons (d_nm n_law_is_round_right_b2_13) da_nil)))))) da_nil)) (nomark _)) (db_one (ds_ret de_bool)) db_nil)
    (db_cons (ds_parM 9 10 rfl S_law_is_round_right.nd l_law_is_round_right_9.hN l_law_is_round_right_10.hN (by decide) o_law_is_round_right_9 o_law_is_round_right_10 (dm_l (df_lst da_nil) (dm_d (de_tup (da_cons (d_nm n_law_is_round_right_1) (da_cons (d_nm n_law_is_round_right_2) da_nil))) dm_nil)) (by rfl))
    (db_cons (ds_while PassesOwn.never (dt_cmp op_gt' (de_ix ix' (d_nm n_law_is_round_right_10) de_int (fun _ _ => rfl)) de_int (nomark _)) (db_cons (d_app n_law_is_round_right_9 (de_op op_div' (de_ix ix' (d_nm n_law_is_round_right_10) de_int (fun _ _ => rfl)) (de_ix ix' (d_nm n_law_is_round_right_10) de_int (fun _ _ => rfl))))
    (db_one (d_set S_law_is_round_right.nd l_law_is_round_right_10 (fun _ => rfl) (de_tup (da_cons (de_op op_sub' (de_ix ix' (d_nm n_law_is_round_right_10) de_int (fun _ _ => rfl)) (de_op op_mul' (d_ixo n_law_is_round_right_9 (de_un un_neg' de_int) (fun _ _ => rfl)) (de_ix ix' (d_nm n_law_is_round_right_10) de_int (fun _ _ => rfl)))) (da_cons (de_ix ix' (d_nm n_law_is_round_right_10) de_int (fun _ _ => rfl)) da_nil)))))))
    (db_cons (ds_asg (de_call G_ladder (hr.mono (by decide)) hG g_law_is_round_right_ladder q_ladder K_ladder b_ladder (da_cons (d_nm n_law_is_round_right_5) da_nil) (lenC lenN) (nd_ladder)) (dg_tup rfl (dgs_cons (d_gnm S_law_is_round_right.nd l_law_is_round_right_11 (fun _ => rfl)) (dgs_cons (d_gnm S_law_is_round_right.nd l_law_is_round_right_12 (fun _ => rfl)) dgs_nil))))
    (db_one (ds_ret (de_and (de_cmp (op_eq' (hu64 hr)) (d_nm n_law_is_round_right_11) de_str (nomark _)) (de_one (de_cmp (op_eq' (hu64 hr)) (de_of (df_lc (own := [("one", 14)]) rfl S_law_is_round_right.nd (di_any (d_nm n_law_is_round_right_12)) (blkOk_by (N := N_law_is_round_right) (sc := defScope s_law_is_round_right) (by decide +kernel)) (fun _ _ _ _ _ => (d_gcnm S_law_is_round_right.nd l_law_is_round_right_b1_14 o_law_is_round_right_b1_14 (by decide))) (fun _ _ _ _ _ => dts_nil) (fun _ _ _ _ _ => (de_ix ix' (d_nm n_law_is_round_right_b1_14) de_int (fun _ _ => rfl))))) (de_op op_add' (d_nm n_law_is_round_right_9) (de_of (df_lst (da_cons de_none da_nil)))) (nomark _))))))))))))))))
abbrev N_law : List Str := ["script", "hand", "turn", "form", "rule", "at"]
theorem S_law : FnScope N_law ["script"] (defScope s_law) := ⟨rfl, rfl, rfl, by decide +kernel, rfl, by decide +kernel, by decide +kernel⟩
abbrev c_law_1 : Scope := ({ kind := .function, names := [(Str.ofString ".0", .local), (Str.ofString "at", .local), (Str.ofString "nth_duty", .globalImplicit)], isGenerator := false, isCoroutine := false, more := [] } : Scope)
theorem g_law_range : (defScope s_law).names.lookup ("range" : Str) = some .globalImplicit := by decide +kernel
theorem l_law_2 : LcOk N_law (defScope s_law) 2 "turn" := lcB_ok (by decide +kernel)
theorem n_law_3 : NmOk N_law (defScope s_law) 3 "form" := nmB_ok (by decide +kernel)
theorem g_law__law_rule : (defScope s_law).names.lookup ("_law_rule" : Str) = some .globalImplicit := by decide +kernel
theorem n_law_1 : NmOk N_law (defScope s_law) 1 "hand" := nmB_ok (by decide +kernel)
theorem n_law_4 : NmOk N_law (defScope s_law) 4 "rule" := nmB_ok (by decide +kernel)
theorem g_law_parts_at : (defScope s_law).names.lookup ("parts_at" : Str) = some .globalImplicit := by decide +kernel
theorem g_law_normal : (defScope s_law).names.lookup ("normal" : Str) = some .globalImplicit := by decide +kernel
theorem g_law__law_is : (defScope s_law).names.lookup ("_law_is" : Str) = some .globalImplicit := by decide +kernel
theorem g_law_rule_of : (defScope s_law).names.lookup ("rule_of" : Str) = some .globalImplicit := by decide +kernel
theorem l_law_4 : LcOk N_law (defScope s_law) 4 "rule" := lcB_ok (by decide +kernel)
theorem g_law__law_is_round_right : (defScope s_law).names.lookup ("_law_is_round_right" : Str) = some .globalImplicit := by decide +kernel
theorem g_law__law_are_distances_right : (defScope s_law).names.lookup ("_law_are_distances_right" : Str) = some .globalImplicit := by decide +kernel
theorem l_law_3 : LcOk N_law (defScope s_law) 3 "form" := lcB_ok (by decide +kernel)
theorem g_law__law_some : (defScope s_law).names.lookup ("_law_some" : Str) = some .globalImplicit := by decide +kernel
theorem g_law__law_form : (defScope s_law).names.lookup ("_law_form" : Str) = some .globalImplicit := by decide +kernel
theorem g_law__law_derived : (defScope s_law).names.lookup ("_law_derived" : Str) = some .globalImplicit := by decide +kernel
theorem l_law_b1_5 : LcOk N_law (relS c_law_1 (defScope s_law)) 5 "at" := lcB_ok (by decide +kernel)
theorem o_law_b1_5 : (relS c_law_1 (defScope s_law)).names.lookup ("at" : Str) = some .local := by decide +kernel
theorem n_law_b1_5 : NmOk N_law (relS c_law_1 (defScope s_law)) 5 "at" := nmB_ok (by decide +kernel)
theorem g_law_b1_nth_duty : (relS c_law_1 (defScope s_law)).names.lookup ("nth_duty" : Str) = some .globalImplicit := by decide +kernel
theorem n_law_0 : NmOk N_law (defScope s_law) 0 "script" := nmB_ok (by decide +kernel)
theorem g_law__law_hand : (defScope s_law).names.lookup ("_law_hand" : Str) = some .globalImplicit := by decide +kernel
theorem l_law_1 : LcOk N_law (defScope s_law) 1 "hand" := lcB_ok (by decide +kernel)
theorem law_fn {f : Addr} {fd : FuncData} (T : Top K mg) (F : FunD K "law" "law" (defArgs s_law) (defBody s_law) (defScope s_law) [] [] f fd) (h_law_is : Ok_law_is P w K mg base) (h_parts_at : Ok_parts_at P w K mg base) (h_law_rule : Ok_law_rule P w K mg base) (h_normal : Ok_normal P w K mg base) (h_rule_of : Ok_rule_of P w K mg base) (h_law_is_round_right : Ok_law_is_round_right P w K mg base) (h_law_are_distances_right : Ok_law_are_distances_right P w K mg base) (h_law_form : Ok_law_form P w K mg base) (h_law_some : Ok_law_some P w K mg base) (h_law_derived : Ok_law_derived P w K mg base) (h_nth_duty : Ok_nth_duty P w K mg base) (h_law_hand : Ok_law_hand P w K mg base) : FnG P w K mg base 8 f fd ["script"] (spD K 1 m_law) := by
  obtain ⟨f_law_is, fd_law_is, q_law_is, K_law_is, b_law_is, G_law_is⟩ := h_law_is
  obtain ⟨f_parts_at, fd_parts_at, q_parts_at, K_parts_at, b_parts_at, G_parts_at⟩ := h_parts_at
  obtain ⟨f_law_rule, fd_law_rule, q_law_rule, K_law_rule, b_law_rule, G_law_rule⟩ := h_law_rule
  obtain ⟨f_normal, fd_normal, q_normal, K_normal, b_normal, G_normal⟩ := h_normal
  obtain ⟨f_rule_of, fd_rule_of, q_rule_of, K_rule_of, b_rule_of, G_rule_of⟩ := h_rule_of
  obtain ⟨f_law_is_round_right, fd_law_is_round_right, q_law_is_round_right, K_law_is_round_right, b_law_is_round_right, G_law_is_round_right⟩ := h_law_is_round_right
  obtain ⟨f_law_are_distances_right, fd_law_are_distances_right, q_law_are_distances_right, K_law_are_distances_right, b_law_are_distances_right, G_law_are_distances_right⟩ := h_law_are_distances_right
  obtain ⟨f_law_form, fd_law_form, q_law_form, K_law_form, b_law_form, G_law_form⟩ := h_law_form
  obtain ⟨f_law_some, fd_law_some, q_law_some, K_law_some, b_law_some, G_law_some⟩ := h_law_some
  obtain ⟨f_law_derived, fd_law_derived, q_law_derived, K_law_derived, b_law_derived, G_law_derived⟩ := h_law_derived
  obtain ⟨f_nth_duty, fd_nth_duty, q_nth_duty, K_nth_duty, b_nth_duty, G_nth_duty⟩ := h_nth_duty
  obtain ⟨f_law_hand, fd_law_hand, q_law_hand, K_law_hand, b_law_hand, G_law_hand⟩ := h_law_hand
  have z_range := T.z_range
  refine fn_D F S_law fun cdv A outer s H hr hG => ?_
  exact (db_cons (d_own S_law.nd l_law_1 (fun _ => rfl) (df_call G_law_hand (hr.mono (by decide)) hG g_law__law_hand q_law_hand K_law_hand b_law_hand (da_cons (d_nm n_law_0) da_nil) (lenC lenN) (nd__law_hand)))
    (db_cons (ds_if (dt_w (dw_or (dt_cmp (op_ne' (hu64 hr)) (de_call G_law_derived (hr.mono (by decide)) hG g_law__law_derived q_law_derived K_law_derived b_law_derived (da_cons (de_tup (da_cons de_int (da_cons de_int (da_cons de_int da_nil)))) da_nil) (lenC lenN) (nd__law_derived)) (de_tup (da_cons (de_tup (da_cons de_int (da_cons de_int (da_cons de_int da_nil)))) (da_cons de_int da_nil))) (nomark _)) (dw_or1 (dt_cmp (op_ne' (hu64 hr)) (de_of (df_lc (own := [("at", 5)]) rfl S_law.nd (di_rg1 g_law_range z_range (da_cons de_int da_nil)) (blkOk_by (N := N_law) (sc := defScope s_law) (by decide +kernel)) (fun _ _ _ _ _ => (d_gcnm S_law.nd l_law_b1_5 o_law_b1_5 (by decide))) (fun _ _ _ _ _ => dts_nil) (fun _ _ _ _ _ => (de_call G_nth_duty (hr.mono (by decide)) hG g_law_b1_nth_duty q_nth_duty K_nth_duty b_nth_duty (da_cons (de_tup (da_cons (de_tup (da_cons de_int (da_cons de_int da_nil))) (da_cons (de_tup (da_cons de_int (da_cons de_int da_nil))) da_nil))) (da_cons (d_nm n_law_b1_5) da_nil)) (lenC (lenC lenN)) (nd_nth_duty))))) (de_of (df_lst (da_cons de_int (da_cons de_int (da_cons de_int (da_cons de_int da_nil)))))) (nomark _))))) (db_one (ds_ret de_bool)) db_nil)
    (db_cons (ds_for PassesOwn.never rfl (di_rg1 g_law_range z_range (da_cons de_int da_nil)) (d_gnm S_law.nd l_law_2 (fun _ => rfl)) (db_cons (d_set S_law.nd l_law_3 (fun _ => rfl) (d_callH G_law_form (hr.mono (by decide)) hG g_law__law_form q_law_form K_law_form b_law_form n_law_1 (da_cons (d_callH G_law_some (hr.mono (by decide)) hG g_law__law_some q_law_some K_law_some b_law_some n_law_1 (da_cons (de_of (df_lst (da_cons de_int (da_cons de_int (da_cons de_int da_nil))))) da_nil) (lenS (lenC lenN)) (nd__law_some)) da_nil) (lenS (lenC lenN)) (nd__law_form)))
    (db_cons (ds_if (dt_cmp (op_eq' (hu64 hr)) (de_ix ix' (d_nm n_law_3) de_int (fun _ _ => rfl)) de_int (nomark _)) (db_one (d_set S_law.nd l_law_3 (fun _ => rfl) (de_tup (da_cons de_int (da_cons (de_op op_add' (de_ix ix' (d_nm n_law_3) de_int (fun _ _ => rfl)) de_int) (da_cons de_int da_nil)))))) db_nil)
    (db_cons (ds_if (dt_not (dt_val (d_callH G_law_are_distances_right (hr.mono (by decide)) hG g_law__law_are_distances_right q_law_are_distances_right K_law_are_distances_right b_law_are_distances_right n_law_1 (da_cons (d_nm n_law_3) da_nil) (lenS (lenC lenN)) (nd__law_are_distances_right)))) (db_one (ds_ret de_bool)) db_nil)
    (db_cons (ds_if (dt_w (dw_and (dt_cmp op_lt' (de_ix ix' (d_nm n_law_3) de_int (fun _ _ => rfl)) de_int (nomark _)) (dw_and1 (dt_not (dt_val (de_call G_law_is_round_right (hr.mono (by decide)) hG g_law__law_is_round_right q_law_is_round_right K_law_is_round_right b_law_is_round_right (da_cons (d_nm n_law_3) da_nil) (lenC lenN) (nd__law_is_round_right))))))) (db_one (ds_ret de_bool)) db_nil)
    (db_cons (d_set S_law.nd l_law_4 (fun _ => rfl) (de_call G_rule_of (hr.mono (by decide)) hG g_law_rule_of q_rule_of K_rule_of b_rule_of (da_cons (d_nm n_law_3) da_nil) (lenC lenN) (nd_rule_of)))
    (db_one (ds_if (dt_not (dt_val (de_call G_law_is (hr.mono (by decide)) hG g_law__law_is q_law_is K_law_is b_law_is (da_cons (de_of (df_lst (da_cons (de_call G_normal (hr.mono (by decide)) hG g_law_normal q_normal K_normal b_normal (da_cons (d_nm n_law_4) da_nil) (lenC lenN) (nd_normal)) (da_cons (de_call G_parts_at (hr.mono (by decide)) hG g_law_parts_at q_parts_at K_parts_at b_parts_at (da_cons (d_nm n_law_4) (da_cons (d_callH G_law_rule (hr.mono (by decide)) hG g_law__law_rule q_law_rule K_law_rule b_law_rule n_law_1 (da_cons (d_nm n_law_3) da_nil) (lenS (lenC lenN)) (nd__law_rule)) da_nil)) (lenC (lenC lenN)) (nd_parts_at)) da_nil)))) (da_cons (de_of (df_lst (da_cons (d_nm n_law_3) (da_cons de_none da_nil)))) da_nil)) (lenC (lenC lenN)) (nd__law_is)))) (db_one (ds_ret de_bool)) db_nil))))))))
    (db_one (ds_ret de_bool)))))
end
end W

set_option maxHeartbeats 0
/-! the head of k24, printed by gen.py -/
namespace W
open PySem PySem.Spec PyProof.Rows L2 PL
def e_is_integer : He.DefD := ⟨("is_integer", none), "is_integer", "is_integer", defArgs s_is_integer, defBody s_is_integer, defScope s_is_integer, [], []⟩
def e_is_within : He.DefD := ⟨("is_within", none), "is_within", "is_within", defArgs s_is_within, defBody s_is_within, defScope s_is_within, [], []⟩
def e_is_tuple_of : He.DefD := ⟨("is_tuple_of", none), "is_tuple_of", "is_tuple_of", defArgs s_is_tuple_of, defBody s_is_tuple_of, defScope s_is_tuple_of, [], []⟩
def e_common : He.DefD := ⟨("common", none), "common", "common", defArgs s_common, defBody s_common, defScope s_common, [], []⟩
def e_is_fraction : He.DefD := ⟨("is_fraction", none), "is_fraction", "is_fraction", defArgs s_is_fraction, defBody s_is_fraction, defScope s_is_fraction, [], []⟩
def e_frac : He.DefD := ⟨("frac", none), "frac", "frac", defArgs s_frac, defBody s_frac, defScope s_frac, [], []⟩
def e_less : He.DefD := ⟨("less", none), "less", "less", defArgs s_less, defBody s_less, defScope s_less, [], []⟩
def e_is_signs : He.DefD := ⟨("is_signs", none), "is_signs", "is_signs", defArgs s_is_signs, defBody s_is_signs, defScope s_is_signs, [], []⟩
def e_is_row : He.DefD := ⟨("is_row", none), "is_row", "is_row", defArgs s_is_row, defBody s_is_row, defScope s_is_row, [], []⟩
def e_check_row : He.DefD := ⟨("check_row", none), "check_row", "check_row", defArgs s_check_row, defBody s_check_row, defScope s_check_row, [], []⟩
def e_duties_of : He.DefD := ⟨("duties_of", none), "duties_of", "duties_of", defArgs s_duties_of, defBody s_duties_of, defScope s_duties_of, [], []⟩
def e_round_gaps : He.DefD := ⟨("round_gaps", none), "round_gaps", "round_gaps", defArgs s_round_gaps, defBody s_round_gaps, defScope s_round_gaps, [], []⟩
def e_check_duty : He.DefD := ⟨("check_duty", none), "check_duty", "check_duty", defArgs s_check_duty, defBody s_check_duty, defScope s_check_duty, [], []⟩
def e_gaps_of : He.DefD := ⟨("gaps_of", none), "gaps_of", "gaps_of", defArgs s_gaps_of, defBody s_gaps_of, defScope s_gaps_of, [], []⟩
def e_derived_of : He.DefD := ⟨("derived_of", none), "derived_of", "derived_of", defArgs s_derived_of, defBody s_derived_of, defScope s_derived_of, [], []⟩
def e_derived : He.DefD := ⟨("derived", none), "derived", "derived", defArgs s_derived, defBody s_derived, defScope s_derived, [], []⟩
def e_ladder_of : He.DefD := ⟨("ladder_of", none), "ladder_of", "ladder_of", defArgs s_ladder_of, defBody s_ladder_of, defScope s_ladder_of, [], []⟩
def e_ladder : He.DefD := ⟨("ladder", none), "ladder", "ladder", defArgs s_ladder, defBody s_ladder, defScope s_ladder, [], []⟩
def e_is_line : He.DefD := ⟨("is_line", none), "is_line", "is_line", defArgs s_is_line, defBody s_is_line, defScope s_is_line, [], []⟩
def e_is_rule : He.DefD := ⟨("is_rule", none), "is_rule", "is_rule", defArgs s_is_rule, defBody s_is_rule, defScope s_is_rule, [], []⟩
def e_check_rule : He.DefD := ⟨("check_rule", none), "check_rule", "check_rule", defArgs s_check_rule, defBody s_check_rule, defScope s_check_rule, [], []⟩
def e_total_to : He.DefD := ⟨("total_to", none), "total_to", "total_to", defArgs s_total_to, defBody s_total_to, defScope s_total_to, [], []⟩
def e_row_of : He.DefD := ⟨("row_of", none), "row_of", "row_of", defArgs s_row_of, defBody s_row_of, defScope s_row_of, [], []⟩
def e_made : He.DefD := ⟨("made", none), "made", "made", defArgs s_made, defBody s_made, defScope s_made, [], []⟩
def e_nth_duty : He.DefD := ⟨("nth_duty", none), "nth_duty", "nth_duty", defArgs s_nth_duty, defBody s_nth_duty, defScope s_nth_duty, [], []⟩
def e_form_of : He.DefD := ⟨("form_of", none), "form_of", "form_of", defArgs s_form_of, defBody s_form_of, defScope s_form_of, [], []⟩
def e_normal : He.DefD := ⟨("normal", none), "normal", "normal", defArgs s_normal, defBody s_normal, defScope s_normal, [], []⟩
def e_made_of : He.DefD := ⟨("made_of", none), "made_of", "made_of", defArgs s_made_of, defBody s_made_of, defScope s_made_of, [], []⟩
def e_rule_of : He.DefD := ⟨("rule_of", none), "rule_of", "rule_of", defArgs s_rule_of, defBody s_rule_of, defScope s_rule_of, [], []⟩
def e_has_duty : He.DefD := ⟨("has_duty", none), "has_duty", "has_duty", defArgs s_has_duty, defBody s_has_duty, defScope s_has_duty, [], []⟩
def e_first_parting : He.DefD := ⟨("first_parting", none), "first_parting", "first_parting", defArgs s_first_parting, defBody s_first_parting, defScope s_first_parting, [], []⟩
def e_parts_at : He.DefD := ⟨("parts_at", none), "parts_at", "parts_at", defArgs s_parts_at, defBody s_parts_at, defScope s_parts_at, [], []⟩
def e_law_hand : He.DefD := ⟨("_law_hand", none), "_law_hand", "_law_hand", defArgs s_law_hand, defBody s_law_hand, defScope s_law_hand, [], []⟩
def e_law_draw : He.DefD := ⟨("_law_draw", none), "_law_draw", "_law_draw", defArgs s_law_draw, defBody s_law_draw, defScope s_law_draw, [], []⟩
def e_law_some : He.DefD := ⟨("_law_some", none), "_law_some", "_law_some", defArgs s_law_some, defBody s_law_some, defScope s_law_some, [], []⟩
def e_law_divisor : He.DefD := ⟨("_law_divisor", none), "_law_divisor", "_law_divisor", defArgs s_law_divisor, defBody s_law_divisor, defScope s_law_divisor, [], []⟩
def e_law_fraction : He.DefD := ⟨("_law_fraction", none), "_law_fraction", "_law_fraction", defArgs s_law_fraction, defBody s_law_fraction, defScope s_law_fraction, [], []⟩
def e_law_made : He.DefD := ⟨("_law_made", none), "_law_made", "_law_made", defArgs s_law_made, defBody s_law_made, defScope s_law_made, [], []⟩
def e_law_is : He.DefD := ⟨("_law_is", none), "_law_is", "_law_is", defArgs s_law_is, defBody s_law_is, defScope s_law_is, [], []⟩
def e_law_form : He.DefD := ⟨("_law_form", none), "_law_form", "_law_form", defArgs s_law_form, defBody s_law_form, defScope s_law_form, [], []⟩
def e_law_rule : He.DefD := ⟨("_law_rule", none), "_law_rule", "_law_rule", defArgs s_law_rule, defBody s_law_rule, defScope s_law_rule, [], []⟩
def e_law_derived : He.DefD := ⟨("_law_derived", none), "_law_derived", "_law_derived", defArgs s_law_derived, defBody s_law_derived, defScope s_law_derived, [], []⟩
def e_law_are_distances_right : He.DefD := ⟨("_law_are_distances_right", none), "_law_are_distances_right", "_law_are_distances_right", defArgs s_law_are_distances_right, defBody s_law_are_distances_right, defScope s_law_are_distances_right, [], []⟩
def e_law_is_round_right : He.DefD := ⟨("_law_is_round_right", none), "_law_is_round_right", "_law_is_round_right", defArgs s_law_is_round_right, defBody s_law_is_round_right, defScope s_law_is_round_right, [], []⟩
def e_law : He.DefD := ⟨("law", none), "law", "law", defArgs s_law, defBody s_law, defScope s_law, [], []⟩
def fn : List He.DefD := [e_is_integer, e_is_within, e_is_tuple_of, e_common, e_is_fraction, e_frac, e_less, e_is_signs, e_is_row, e_check_row, e_duties_of, e_round_gaps, e_check_duty, e_gaps_of, e_derived_of, e_derived, e_ladder_of, e_ladder, e_is_line, e_is_rule, e_check_rule, e_total_to, e_row_of, e_made, e_nth_duty, e_form_of, e_normal, e_made_of, e_rule_of, e_has_duty, e_first_parting, e_parts_at, e_law_hand, e_law_draw, e_law_some, e_law_divisor, e_law_fraction, e_law_made, e_law_is, e_law_form, e_law_rule, e_law_derived, e_law_are_distances_right, e_law_is_round_right, e_law]
def fa : List He.Fa := [.glo "is_integer", .glo "is_within", .glo "is_tuple_of", .glo "common", .glo "is_fraction", .glo "frac", .glo "less", .glo "is_signs", .glo "is_row", .glo "check_row", .glo "duties_of", .glo "round_gaps", .glo "check_duty", .glo "gaps_of", .glo "derived_of", .glo "derived", .glo "ladder_of", .glo "ladder", .glo "is_line", .glo "is_rule", .glo "check_rule", .glo "total_to", .glo "row_of", .glo "made", .glo "nth_duty", .glo "form_of", .glo "normal", .glo "made_of", .glo "rule_of", .glo "has_duty", .glo "first_parting", .glo "parts_at", .glo "_law_hand", .glo "_law_draw", .glo "_law_some", .glo "_law_divisor", .glo "_law_fraction", .glo "_law_made", .glo "_law_is", .glo "_law_form", .glo "_law_rule", .glo "_law_derived", .glo "_law_are_distances_right", .glo "_law_is_round_right", .glo "law", .free "int", .free "isinstance", .free "bool", .free "tuple", .free "len", .free "abs", .free "str", .free "all", .free "enumerate", .free "zip", .free "max", .free "min", .free "range", .free "repr", .str "DUTY" "1", .str "FREE" "0", .int "MOST_DAYS" 500, .str "EVEN" "even", .str "UNEVEN" "uneven", .int "MOST_BOTTOM" 10000, .int "MOST_DAY" 1000000000000, .glo "ZERO", .glo "ONE"]
def ex (K : PySem.W.Frag) : Bool := He.tupB K "ZERO" [.int 0, .int 1] && He.tupB K "ONE" [.int 1, .int 1]
abbrev Rw : PySem.W.OpenRow := PySem.W.OpenLaw.row PySem.Challenge.rw_evenduties_k24_whole_rules_derived_as_th
abbrev hk : PySem.W.Hook := hookP 4 fa fn ex
def ob (s : PySem.W.SharedT) : AlP := obsPG 4 fa fn ex (HandSHeadRun.getT s)
theorem ob_eq (s : PySem.W.SharedT) : ob s = hk.obs s.abs := obsPG_eq (HandSHeadRun.getT_eq s)
abbrev loose : List Str := (["ZERO", "ONE", "is_integer", "is_within", "is_tuple_of", "common", "is_fraction", "frac", "less", "DutyError", "BadForm", "BadNumber", "BadRow", "BadRule", "NoDuty", "MOST_DAYS", "FREE", "DUTY", "is_signs", "is_row", "check_row", "duties_of", "EVEN", "UNEVEN", "round_gaps", "check_duty", "gaps_of", "derived_of", "derived", "ladder_of"] : List Str) ++ (["ladder", "MOST_BOTTOM", "MOST_DAY", "is_line", "is_rule", "check_rule", "total_to", "row_of", "made", "nth_duty", "form_of", "normal", "made_of", "rule_of", "has_duty", "first_parting", "parts_at", "_law_hand", "_law_draw", "_law_some", "_law_divisor", "_law_fraction", "_law_made", "_law_is", "_law_form", "_law_rule", "_law_derived", "_law_are_distances_right", "_law_is_round_right"] : List Str)
theorem run (w : World) : HandSHeadRun.RunEq Rw (PySem.W.view Rw.prog [66]) hk ob 4000 loose w := by
  intro os
  kernel_rfl
theorem facts {P : Program} {w : World} {K : PySem.W.Frag} {h : Heap} {mg : Str → Option Value} {f : Addr} (X : K.In h) (G : h.Ns mainGlobals mg) (hfa : mg ("law" : Str) = some (.ref f)) (c0 : obsP fa fn ex K = valP fn) :
    ∃ fd : FuncData, (∀ (s : Shared) (v : Value), BindsTo s fd ⟨[v], []⟩ [("script", v)]) ∧ ∀ base : Heap, K.In base → base.Ns mainGlobals mg → FnG P w K mg base 8 f fd ["script"] (spD K 1 m_law) := by
  have c := says_d c0
  have cx := says_ex c0
  unfold ex at cx
  simp only [Bool.and_eq_true] at cx
  have T : Top K mg := {
    d_is_integer := by
      obtain ⟨fd, F⟩ := c.def_ 0 (d := e_is_integer) rfl
      exact ⟨_, fd, He.glo_ok X G (c.fact 0 (f := .glo "is_integer") rfl), F⟩
    d_is_within := by
      obtain ⟨fd, F⟩ := c.def_ 1 (d := e_is_within) rfl
      exact ⟨_, fd, He.glo_ok X G (c.fact 1 (f := .glo "is_within") rfl), F⟩
    d_is_tuple_of := by
      obtain ⟨fd, F⟩ := c.def_ 2 (d := e_is_tuple_of) rfl
      exact ⟨_, fd, He.glo_ok X G (c.fact 2 (f := .glo "is_tuple_of") rfl), F⟩
    d_common := by
      obtain ⟨fd, F⟩ := c.def_ 3 (d := e_common) rfl
      exact ⟨_, fd, He.glo_ok X G (c.fact 3 (f := .glo "common") rfl), F⟩
    d_is_fraction := by
      obtain ⟨fd, F⟩ := c.def_ 4 (d := e_is_fraction) rfl
      exact ⟨_, fd, He.glo_ok X G (c.fact 4 (f := .glo "is_fraction") rfl), F⟩
    d_frac := by
      obtain ⟨fd, F⟩ := c.def_ 5 (d := e_frac) rfl
      exact ⟨_, fd, He.glo_ok X G (c.fact 5 (f := .glo "frac") rfl), F⟩
    d_less := by
      obtain ⟨fd, F⟩ := c.def_ 6 (d := e_less) rfl
      exact ⟨_, fd, He.glo_ok X G (c.fact 6 (f := .glo "less") rfl), F⟩
    d_is_signs := by
      obtain ⟨fd, F⟩ := c.def_ 7 (d := e_is_signs) rfl
      exact ⟨_, fd, He.glo_ok X G (c.fact 7 (f := .glo "is_signs") rfl), F⟩
    d_is_row := by
      obtain ⟨fd, F⟩ := c.def_ 8 (d := e_is_row) rfl
      exact ⟨_, fd, He.glo_ok X G (c.fact 8 (f := .glo "is_row") rfl), F⟩
    d_check_row := by
      obtain ⟨fd, F⟩ := c.def_ 9 (d := e_check_row) rfl
      exact ⟨_, fd, He.glo_ok X G (c.fact 9 (f := .glo "check_row") rfl), F⟩
    d_duties_of := by
      obtain ⟨fd, F⟩ := c.def_ 10 (d := e_duties_of) rfl
      exact ⟨_, fd, He.glo_ok X G (c.fact 10 (f := .glo "duties_of") rfl), F⟩
    d_round_gaps := by
      obtain ⟨fd, F⟩ := c.def_ 11 (d := e_round_gaps) rfl
      exact ⟨_, fd, He.glo_ok X G (c.fact 11 (f := .glo "round_gaps") rfl), F⟩
    d_check_duty := by
      obtain ⟨fd, F⟩ := c.def_ 12 (d := e_check_duty) rfl
      exact ⟨_, fd, He.glo_ok X G (c.fact 12 (f := .glo "check_duty") rfl), F⟩
    d_gaps_of := by
      obtain ⟨fd, F⟩ := c.def_ 13 (d := e_gaps_of) rfl
      exact ⟨_, fd, He.glo_ok X G (c.fact 13 (f := .glo "gaps_of") rfl), F⟩
    d_derived_of := by
      obtain ⟨fd, F⟩ := c.def_ 14 (d := e_derived_of) rfl
      exact ⟨_, fd, He.glo_ok X G (c.fact 14 (f := .glo "derived_of") rfl), F⟩
    d_derived := by
      obtain ⟨fd, F⟩ := c.def_ 15 (d := e_derived) rfl
      exact ⟨_, fd, He.glo_ok X G (c.fact 15 (f := .glo "derived") rfl), F⟩
    d_ladder_of := by
      obtain ⟨fd, F⟩ := c.def_ 16 (d := e_ladder_of) rfl
      exact ⟨_, fd, He.glo_ok X G (c.fact 16 (f := .glo "ladder_of") rfl), F⟩
    d_ladder := by
      obtain ⟨fd, F⟩ := c.def_ 17 (d := e_ladder) rfl
      exact ⟨_, fd, He.glo_ok X G (c.fact 17 (f := .glo "ladder") rfl), F⟩
    d_is_line := by
      obtain ⟨fd, F⟩ := c.def_ 18 (d := e_is_line) rfl
      exact ⟨_, fd, He.glo_ok X G (c.fact 18 (f := .glo "is_line") rfl), F⟩
    d_is_rule := by
      obtain ⟨fd, F⟩ := c.def_ 19 (d := e_is_rule) rfl
      exact ⟨_, fd, He.glo_ok X G (c.fact 19 (f := .glo "is_rule") rfl), F⟩
    d_check_rule := by
      obtain ⟨fd, F⟩ := c.def_ 20 (d := e_check_rule) rfl
      exact ⟨_, fd, He.glo_ok X G (c.fact 20 (f := .glo "check_rule") rfl), F⟩
    d_total_to := by
      obtain ⟨fd, F⟩ := c.def_ 21 (d := e_total_to) rfl
      exact ⟨_, fd, He.glo_ok X G (c.fact 21 (f := .glo "total_to") rfl), F⟩
    d_row_of := by
      obtain ⟨fd, F⟩ := c.def_ 22 (d := e_row_of) rfl
      exact ⟨_, fd, He.glo_ok X G (c.fact 22 (f := .glo "row_of") rfl), F⟩
    d_made := by
      obtain ⟨fd, F⟩ := c.def_ 23 (d := e_made) rfl
      exact ⟨_, fd, He.glo_ok X G (c.fact 23 (f := .glo "made") rfl), F⟩
    d_nth_duty := by
      obtain ⟨fd, F⟩ := c.def_ 24 (d := e_nth_duty) rfl
      exact ⟨_, fd, He.glo_ok X G (c.fact 24 (f := .glo "nth_duty") rfl), F⟩
    d_form_of := by
      obtain ⟨fd, F⟩ := c.def_ 25 (d := e_form_of) rfl
      exact ⟨_, fd, He.glo_ok X G (c.fact 25 (f := .glo "form_of") rfl), F⟩
    d_normal := by
      obtain ⟨fd, F⟩ := c.def_ 26 (d := e_normal) rfl
      exact ⟨_, fd, He.glo_ok X G (c.fact 26 (f := .glo "normal") rfl), F⟩
    d_made_of := by
      obtain ⟨fd, F⟩ := c.def_ 27 (d := e_made_of) rfl
      exact ⟨_, fd, He.glo_ok X G (c.fact 27 (f := .glo "made_of") rfl), F⟩
    d_rule_of := by
      obtain ⟨fd, F⟩ := c.def_ 28 (d := e_rule_of) rfl
      exact ⟨_, fd, He.glo_ok X G (c.fact 28 (f := .glo "rule_of") rfl), F⟩
    d_has_duty := by
      obtain ⟨fd, F⟩ := c.def_ 29 (d := e_has_duty) rfl
      exact ⟨_, fd, He.glo_ok X G (c.fact 29 (f := .glo "has_duty") rfl), F⟩
    d_first_parting := by
      obtain ⟨fd, F⟩ := c.def_ 30 (d := e_first_parting) rfl
      exact ⟨_, fd, He.glo_ok X G (c.fact 30 (f := .glo "first_parting") rfl), F⟩
    d_parts_at := by
      obtain ⟨fd, F⟩ := c.def_ 31 (d := e_parts_at) rfl
      exact ⟨_, fd, He.glo_ok X G (c.fact 31 (f := .glo "parts_at") rfl), F⟩
    d_law_hand := by
      obtain ⟨fd, F⟩ := c.def_ 32 (d := e_law_hand) rfl
      exact ⟨_, fd, He.glo_ok X G (c.fact 32 (f := .glo "_law_hand") rfl), F⟩
    d_law_draw := by
      obtain ⟨fd, F⟩ := c.def_ 33 (d := e_law_draw) rfl
      exact ⟨_, fd, He.glo_ok X G (c.fact 33 (f := .glo "_law_draw") rfl), F⟩
    d_law_some := by
      obtain ⟨fd, F⟩ := c.def_ 34 (d := e_law_some) rfl
      exact ⟨_, fd, He.glo_ok X G (c.fact 34 (f := .glo "_law_some") rfl), F⟩
    d_law_divisor := by
      obtain ⟨fd, F⟩ := c.def_ 35 (d := e_law_divisor) rfl
      exact ⟨_, fd, He.glo_ok X G (c.fact 35 (f := .glo "_law_divisor") rfl), F⟩
    d_law_fraction := by
      obtain ⟨fd, F⟩ := c.def_ 36 (d := e_law_fraction) rfl
      exact ⟨_, fd, He.glo_ok X G (c.fact 36 (f := .glo "_law_fraction") rfl), F⟩
    d_law_made := by
      obtain ⟨fd, F⟩ := c.def_ 37 (d := e_law_made) rfl
      exact ⟨_, fd, He.glo_ok X G (c.fact 37 (f := .glo "_law_made") rfl), F⟩
    d_law_is := by
      obtain ⟨fd, F⟩ := c.def_ 38 (d := e_law_is) rfl
      exact ⟨_, fd, He.glo_ok X G (c.fact 38 (f := .glo "_law_is") rfl), F⟩
    d_law_form := by
      obtain ⟨fd, F⟩ := c.def_ 39 (d := e_law_form) rfl
      exact ⟨_, fd, He.glo_ok X G (c.fact 39 (f := .glo "_law_form") rfl), F⟩
    d_law_rule := by
      obtain ⟨fd, F⟩ := c.def_ 40 (d := e_law_rule) rfl
      exact ⟨_, fd, He.glo_ok X G (c.fact 40 (f := .glo "_law_rule") rfl), F⟩
    d_law_derived := by
      obtain ⟨fd, F⟩ := c.def_ 41 (d := e_law_derived) rfl
      exact ⟨_, fd, He.glo_ok X G (c.fact 41 (f := .glo "_law_derived") rfl), F⟩
    d_law_are_distances_right := by
      obtain ⟨fd, F⟩ := c.def_ 42 (d := e_law_are_distances_right) rfl
      exact ⟨_, fd, He.glo_ok X G (c.fact 42 (f := .glo "_law_are_distances_right") rfl), F⟩
    d_law_is_round_right := by
      obtain ⟨fd, F⟩ := c.def_ 43 (d := e_law_is_round_right) rfl
      exact ⟨_, fd, He.glo_ok X G (c.fact 43 (f := .glo "_law_is_round_right") rfl), F⟩
    d_law := by
      obtain ⟨fd, F⟩ := c.def_ 44 (d := e_law) rfl
      exact ⟨_, fd, He.glo_ok X G (c.fact 44 (f := .glo "law") rfl), F⟩
    z_int := He.free_ok X G (c.fact 45 (f := .free "int") rfl)
    z_isinstance := He.free_ok X G (c.fact 46 (f := .free "isinstance") rfl)
    z_bool := He.free_ok X G (c.fact 47 (f := .free "bool") rfl)
    z_tuple := He.free_ok X G (c.fact 48 (f := .free "tuple") rfl)
    z_len := He.free_ok X G (c.fact 49 (f := .free "len") rfl)
    z_abs := He.free_ok X G (c.fact 50 (f := .free "abs") rfl)
    z_str := He.free_ok X G (c.fact 51 (f := .free "str") rfl)
    z_all := He.free_ok X G (c.fact 52 (f := .free "all") rfl)
    z_enumerate := He.free_ok X G (c.fact 53 (f := .free "enumerate") rfl)
    z_zip := He.free_ok X G (c.fact 54 (f := .free "zip") rfl)
    z_max := He.free_ok X G (c.fact 55 (f := .free "max") rfl)
    z_min := He.free_ok X G (c.fact 56 (f := .free "min") rfl)
    z_range := He.free_ok X G (c.fact 57 (f := .free "range") rfl)
    z_repr := He.free_ok X G (c.fact 58 (f := .free "repr") rfl)
    k_DUTY := He.str_ok X G (c.fact 59 (f := .str "DUTY" "1") rfl)
    k_FREE := He.str_ok X G (c.fact 60 (f := .str "FREE" "0") rfl)
    k_MOST_DAYS := He.int_ok X G (c.fact 61 (f := .int "MOST_DAYS" 500) rfl)
    k_EVEN := He.str_ok X G (c.fact 62 (f := .str "EVEN" "even") rfl)
    k_UNEVEN := He.str_ok X G (c.fact 63 (f := .str "UNEVEN" "uneven") rfl)
    k_MOST_BOTTOM := He.int_ok X G (c.fact 64 (f := .int "MOST_BOTTOM" 10000) rfl)
    k_MOST_DAY := He.int_ok X G (c.fact 65 (f := .int "MOST_DAY" 1000000000000) rfl)
    k_ZERO := ⟨He.ga K "ZERO", He.glo_ok X G (c.fact 66 (f := .glo "ZERO") rfl), fun H => tup_ints (ns := [0, 1]) cx.1 H⟩
    k_ONE := ⟨He.ga K "ONE", He.glo_ok X G (c.fact 67 (f := .glo "ONE") rfl), fun H => tup_ints (ns := [1, 1]) cx.2 H⟩
  }
  obtain ⟨fd, F⟩ := c.def_ 44 (d := e_law) rfl
  have e := hfa.symm.trans (He.glo_ok X G (c.fact 44 (f := .glo "law") rfl))
  cases e
  have b := FunD.bindsA (ps := ["script"]) F fun _ _ _ _ _ _ us hl => match us, hl with | [_], _ => rfl
  refine ⟨fd, fun s v => b s [v] rfl, fun base _ _ => ?_⟩
  have h_is_integer : Ok_is_integer P w K mg base := ok_is_integer T
  have h_is_within : Ok_is_within P w K mg base := ok_is_within T h_is_integer
  have h_is_tuple_of : Ok_is_tuple_of P w K mg base := ok_is_tuple_of T
  have h_common : Ok_common P w K mg base := ok_common T
  have h_is_fraction : Ok_is_fraction P w K mg base := ok_is_fraction T h_common h_is_tuple_of h_is_integer
  have h_frac : Ok_frac P w K mg base := ok_frac T h_common
  have h_less : Ok_less P w K mg base := ok_less T
  have h_is_signs : Ok_is_signs P w K mg base := ok_is_signs T
  have h_is_row : Ok_is_row P w K mg base := ok_is_row T h_is_signs
  have h_check_row : Ok_check_row P w K mg base := ok_check_row T h_is_row
  have h_duties_of : Ok_duties_of P w K mg base := ok_duties_of T
  have h_round_gaps : Ok_round_gaps P w K mg base := ok_round_gaps T h_duties_of
  have h_check_duty : Ok_check_duty P w K mg base := ok_check_duty T h_check_row
  have h_gaps_of : Ok_gaps_of P w K mg base := ok_gaps_of T h_round_gaps h_check_duty
  have h_derived_of : Ok_derived_of P w K mg base := ok_derived_of T h_round_gaps
  have h_derived : Ok_derived P w K mg base := ok_derived T h_derived_of h_check_duty
  have h_ladder_of : Ok_ladder_of P w K mg base := ok_ladder_of T h_round_gaps h_derived_of
  have h_ladder : Ok_ladder P w K mg base := ok_ladder T h_ladder_of h_check_row
  have h_is_line : Ok_is_line P w K mg base := ok_is_line T h_less h_is_tuple_of h_is_fraction
  have h_is_rule : Ok_is_rule P w K mg base := ok_is_rule T h_is_line
  have h_check_rule : Ok_check_rule P w K mg base := ok_check_rule T h_is_rule
  have h_total_to : Ok_total_to P w K mg base := ok_total_to T
  have h_row_of : Ok_row_of P w K mg base := ok_row_of T h_total_to
  have h_made : Ok_made P w K mg base := ok_made T h_row_of h_is_within h_check_rule
  have h_nth_duty : Ok_nth_duty P w K mg base := ok_nth_duty T h_is_within h_check_rule
  have h_form_of : Ok_form_of P w K mg base := ok_form_of T
  have h_normal : Ok_normal P w K mg base := ok_normal T h_form_of h_check_rule
  have h_made_of : Ok_made_of P w K mg base := ok_made_of T h_frac
  have h_rule_of : Ok_rule_of P w K mg base := ok_rule_of T h_made_of h_common h_is_within h_is_tuple_of
  have h_has_duty : Ok_has_duty P w K mg base := ok_has_duty T h_total_to
  have h_first_parting : Ok_first_parting P w K mg base := ok_first_parting T h_has_duty h_form_of
  have h_parts_at : Ok_parts_at P w K mg base := ok_parts_at T h_first_parting h_check_rule
  have h_law_hand : Ok_law_hand P w K mg base := ok_law_hand T
  have h_law_draw : Ok_law_draw P w K mg base := ok_law_draw T
  have h_law_some : Ok_law_some P w K mg base := ok_law_some T h_law_draw
  have h_law_divisor : Ok_law_divisor P w K mg base := ok_law_divisor T
  have h_law_fraction : Ok_law_fraction P w K mg base := ok_law_fraction T h_law_divisor
  have h_law_made : Ok_law_made P w K mg base := ok_law_made T
  have h_law_is : Ok_law_is P w K mg base := ok_law_is T
  have h_law_form : Ok_law_form P w K mg base := ok_law_form T h_law_draw h_law_divisor h_law_some
  have h_law_rule : Ok_law_rule P w K mg base := ok_law_rule T h_law_fraction h_law_some
  have h_law_derived : Ok_law_derived P w K mg base := ok_law_derived T h_law_divisor
  have h_law_are_distances_right : Ok_law_are_distances_right P w K mg base := ok_law_are_distances_right T h_law_draw h_made h_rule_of h_nth_duty h_law_derived h_law_rule
  have h_law_is_round_right : Ok_law_is_round_right P w K mg base := ok_law_is_round_right T h_ladder h_gaps_of h_made h_rule_of h_derived h_law_derived h_law_made
  exact law_fn T F h_law_is h_parts_at h_law_rule h_normal h_rule_of h_law_is_round_right h_law_are_distances_right h_law_form h_law_some h_law_derived h_nth_duty h_law_hand
end W
open PySem PySem.W PySem.Calls PyProof.Rows
theorem W.the_end (hm : ∀ ns : List Int, ns.length ≤ 63 → W.m_law [.list (ns.map PyData.int)] = some (.bool true)) : PySem.Challenge.rw_evenduties_k24_whole_rules_derived_as_th.Holds := by
  w_on; o_law
  refine HandSHeadRun.head_any (r := OpenLaw.row PySem.Challenge.rw_evenduties_k24_whole_rules_derived_as_th) (q := view (OpenLaw.row PySem.Challenge.rw_evenduties_k24_whole_rules_derived_as_th).prog [66]) (H := W.hk) (ob := W.ob) (M := 4000) (loose := W.loose) (d := HandSHeadRun.topDef (OpenLaw.row PySem.Challenge.rw_evenduties_k24_whole_rules_derived_as_th).prog 66) (kwd := []) W.ob_eq
    (by kernel_rfl) (fun s => by kernel_rfl) W.run (by kernel_rfl) (by kernel_rfl) (by kernel_rfl) (by rfl) (by first | assumption | decide +kernel) (by decide +kernel) ⟨rfl, rfl, rfl, rfl, rfl, by decide +kernel⟩ ?hw ?hc
  case hw => w_witness2
  case hc =>
    refine PL.walk_end (l := PySem.Challenge.rw_evenduties_k24_whole_rules_derived_as_th) (n := 63) (k := 8) (x := "script") (m := W.m_law) rfl (by decide) (by kernel_rfl) ⟨rfl, by decide, by decide⟩ ?F hm
    intro w mg fa h Y G hmg0
    obtain ⟨K, KX, c⟩ := Y
    have hmg : mg ("law" : PySem.Str) = some (.ref fa) := by
      have e : (HandSHeadRun.topDef (OpenLaw.row PySem.Challenge.rw_evenduties_k24_whole_rules_derived_as_th).prog 66).name = ("law" : PySem.Str) := by kernel_rfl
      rw [← e]
      exact hmg0
    obtain ⟨fd, hb, hF⟩ := W.facts (P := (PySem.Challenge.rw_evenduties_k24_whole_rules_derived_as_th).prog) (w := w) KX G hmg c
    exact ⟨K, fd, KX, hb, hF⟩

theorem PySem.Challenge.cw_evenduties_k24_whole_rules_derived_as_th_holds : PySem.Challenge.rw_evenduties_k24_whole_rules_derived_as_th.Holds := by
  exact W.the_end (fun ns h => W.S.s_law ns h)
