import PyProof.Rows.All
import Wide.All
import OpenK.AllK
import Wide.FinOn
import HandS.ForMost
import HandS.ForExc
import HandS.Flow
import HandS.IsInst
import HandS.Wide
import HandS.WideBits
import HandS.TupMul
import HandS.TupAny
import KE.GoesEnum
import KE.GoesMore
import HandS.Style
import HandS.Dict
import KE.GoesZip
import KE.GoesEnumKw
import HandS.Zip
import KE.KUnpackStar
import HandS.More
import PySem.Challenge.RW_thankways_k05_books_of_any_kind
set_option Elab.async false
set_option linter.all false
set_option maxRecDepth 100000
namespace TW
open PySem PySem.Spec PyProof.Rows L2

/-! ### data without addresses -/
inductive D where
  | non | bl (b : Bool) | int (i : Int) | str (s : Str) | tup (xs : List D) | lst (xs : List D) | dct (ks : List Key) (vs : List D)
/-- a value: data, or a changeable object by its number -/
inductive Vv where
  | d (x : D) | ref (n : Nat)
inductive MO where
  | lst (xs : List D) | dT (ks : List (List Key)) (vs : List D)
/-- a refusal: its class by name, its fields -/
structure Xn where
  cls : Str
  fs : List (Str × D)
abbrev Sto := List MO
abbrev En := List (Option Vv)
inductive R (α : Type) where
  | ok (a : α) (st : Sto) | exc (x : Xn) (st : Sto) | stuck
def R.bind {α β : Type} : R α → (α → Sto → R β) → R β
  | .ok a st, f => f a st
  | .exc x st, _ => .exc x st
  | .stuck, _ => .stuck

mutual
def RepD (K : PySem.W.Frag) (H : Hp) : D → V → Prop
  | .non, v => v = .non
  | .bl b, v => v = .bl b
  | .int i, v => v = .int i
  | .str s, v => v = .str s ∧ s.length ≤ sizeLine ∧ PySem.PyData.strOk s = true
  | .tup xs, v => ∃ a vs, v = .ref a ∧ SqT K H a vs ∧ xs.length ≤ sizeLine ∧ RepDs K H xs vs
  | .lst xs, v => ∃ a vs, v = .ref a ∧ SqL K H a vs ∧ xs.length ≤ sizeLine ∧ RepDs K H xs vs
  | .dct ks xs, v => ∃ a vs, v = .ref a ∧ H a = some (.dK (ks.zip vs)) ∧ ks.length = vs.length ∧ RepDs K H xs vs
def RepDs (K : PySem.W.Frag) (H : Hp) : List D → List V → Prop
  | [], vs => vs = []
  | x :: xs, vs => ∃ v r, vs = v :: r ∧ RepD K H x v ∧ RepDs K H xs r
end
variable {K : PySem.W.Frag}
theorem same_rd {H H' : Hp} {a : Addr} {u : HO} (e : Same H H') (h : Rd H a u) : Rd H' a u := by
  rcases h with h | ⟨o, h⟩
  · exact .inl (e _ _ h)
  · exact .inr ⟨o, e _ _ h⟩
theorem same_tup {H H' : Hp} {a : Addr} {xs : List V} (e : Same H H') (h : SqT K H a xs) : SqT K H' a xs := by
  rcases h with h | h
  · exact .inl (same_rd e h)
  · exact .inr h
mutual
theorem RepD.mono {H H' : Hp} (e : Same H H') : ∀ (d : D) (v : V), RepD K H d v → RepD K H' d v
  | .non, _, h => by simpa only [RepD] using h
  | .bl _, _, h => by simpa only [RepD] using h
  | .int _, _, h => by simpa only [RepD] using h
  | .str _, _, h => by simpa only [RepD] using h
  | .tup xs, _, h => by
    simp only [RepD] at h ⊢
    obtain ⟨a, vs, r, q, l, z⟩ := h
    exact ⟨a, vs, r, same_tup e q, l, RepDs.mono e xs vs z⟩
  | .lst xs, _, h => by
    simp only [RepD] at h ⊢
    obtain ⟨a, vs, r, q, l, z⟩ := h
    exact ⟨a, vs, r, e.seq q, l, RepDs.mono e xs vs z⟩
  | .dct ks xs, _, h => by
    simp only [RepD] at h ⊢
    obtain ⟨a, vs, r, q, l, z⟩ := h
    exact ⟨a, vs, r, e _ _ q, l, RepDs.mono e xs vs z⟩
theorem RepDs.mono {H H' : Hp} (e : Same H H') : ∀ (ds : List D) (vs : List V), RepDs K H ds vs → RepDs K H' ds vs
  | [], _, h => by simpa only [RepDs] using h
  | x :: xs, _, h => by
    simp only [RepDs] at h ⊢
    obtain ⟨v, r, rfl, p, q⟩ := h
    exact ⟨v, r, rfl, RepD.mono e x v p, RepDs.mono e xs r q⟩
end
theorem RepDs.length {H : Hp} : ∀ {ds : List D} {vs : List V}, RepDs K H ds vs → ds.length = vs.length
  | [], _, h => by simp only [RepDs] at h; subst h; rfl
  | x :: xs, _, h => by
    simp only [RepDs] at h
    obtain ⟨v, r, rfl, p, q⟩ := h
    simp [RepDs.length q]
theorem RepDs.nil {H : Hp} : RepDs K H [] [] := by simp only [RepDs]
theorem RepDs.cons {H : Hp} {x : D} {xs : List D} {v : V} {vs : List V} (h : RepD K H x v) (t : RepDs K H xs vs) : RepDs K H (x :: xs) (v :: vs) := by
  simp only [RepDs]
  exact ⟨v, vs, rfl, h, t⟩
theorem RepDs.uncons {H : Hp} {x : D} {xs : List D} {vs : List V} (h : RepDs K H (x :: xs) vs) : ∃ v r, vs = v :: r ∧ RepD K H x v ∧ RepDs K H xs r := by
  simpa only [RepDs] using h
theorem RepDs.get {H : Hp} : ∀ {ds : List D} {vs : List V} {i : Nat} {d : D}, RepDs K H ds vs → ds[i]? = some d → ∃ v, vs[i]? = some v ∧ RepD K H d v
  | [], _, _, _, _, e => by simp at e
  | x :: xs, _, 0, _, h, e => by
    obtain ⟨v, r, rfl, p, q⟩ := h.uncons
    simp at e; subst e
    exact ⟨v, rfl, p⟩
  | x :: xs, _, i + 1, _, h, e => by
    obtain ⟨v, r, rfl, p, q⟩ := h.uncons
    have := RepDs.get (i := i) q (by simpa using e)
    simpa using this
theorem RepDs.append {H : Hp} : ∀ {ds es : List D} {vs us : List V}, RepDs K H ds vs → RepDs K H es us → RepDs K H (ds ++ es) (vs ++ us)
  | [], _, _, _, h, g => by simp only [RepDs] at h; subst h; exact g
  | x :: xs, _, _, _, h, g => by
    obtain ⟨v, r, rfl, p, q⟩ := h.uncons
    exact .cons p (RepDs.append q g)
theorem RepDs.drop {H : Hp} : ∀ {ds : List D} {vs : List V} (n : Nat), RepDs K H ds vs → RepDs K H (ds.drop n) (vs.drop n)
  | _, _, 0, h => by simpa using h
  | [], _, n + 1, h => by simp only [RepDs] at h; subst h; simp; exact RepDs.nil
  | x :: xs, _, n + 1, h => by
    obtain ⟨v, r, rfl, p, q⟩ := h.uncons
    simpa using RepDs.drop n q
theorem RepDs.take {H : Hp} : ∀ {ds : List D} {vs : List V} (n : Nat), RepDs K H ds vs → RepDs K H (ds.take n) (vs.take n)
  | _, _, 0, h => by simp; exact RepDs.nil
  | [], _, n + 1, h => by simp only [RepDs] at h; subst h; simp; exact RepDs.nil
  | x :: xs, _, n + 1, h => by
    obtain ⟨v, r, rfl, p, q⟩ := h.uncons
    simpa using RepDs.cons p (RepDs.take n q)
theorem RepDs.set {H : Hp} {x : D} {v : V} (p : RepD K H x v) : ∀ {ds : List D} {vs : List V} (n : Nat), RepDs K H ds vs → RepDs K H (ds.set n x) (vs.set n v)
  | [], _, _, h => by simp only [RepDs] at h; subst h; simp; exact RepDs.nil
  | y :: ys, _, 0, h => by
    obtain ⟨u, r, rfl, p', q⟩ := h.uncons
    exact .cons p q
  | y :: ys, _, n + 1, h => by
    obtain ⟨u, r, rfl, p', q⟩ := h.uncons
    exact .cons p' (RepDs.set p n q)

/-! ### the heap without the changeable objects -/
/-- where the changeable objects lie; what is hidden -/
structure Mp where
  ad : List Addr
  hid : List Addr
def hm (m : Mp) (H : Hp) : Hp := fun a => if a ∈ m.ad ∨ a ∈ m.hid then none else H a
theorem hm_some {m : Mp} {H : Hp} {a : Addr} {o : HO} : hm m H a = some o ↔ (a ∉ m.ad ∧ a ∉ m.hid) ∧ H a = some o := by
  unfold hm
  split
  · rename_i h
    refine ⟨fun z => (nomatch z), fun z => ?_⟩
    rcases h with h | h
    · exact absurd h z.1.1
    · exact absurd h z.1.2
  · rename_i h
    exact ⟨fun z => ⟨⟨fun w => h (.inl w), fun w => h (.inr w)⟩, z⟩, fun z => z.2⟩
theorem hm_same {m : Mp} {H : Hp} : Same (hm m H) H := fun a o h => (hm_some.mp h).2

def RepO (K : PySem.W.Frag) (H : Hp) : MO → HO → Prop
  | .lst xs, o => ∃ vs, o = .lst vs ∧ RepDs K H xs vs ∧ xs.length ≤ sizeLine
  | .dT ks xs, o => ∃ vs, o = .dT (ks.zip vs) ∧ ks.length = vs.length ∧ RepDs K H xs vs
theorem RepO.mono {H H' : Hp} (e : Same H H') : ∀ {o : MO} {u : HO}, RepO K H o u → RepO K H' o u
  | .lst xs, _, ⟨vs, r, q, l⟩ => ⟨vs, r, q.mono e, l⟩
  | .dT ks xs, _, ⟨vs, r, l, q⟩ => ⟨vs, r, l, q.mono e⟩
theorem ndix {α : Type} {N : List α} (hN : N.Nodup) {i j : Nat} {x : α} (a : N[i]? = some x) (b : N[j]? = some x) : i = j := by
  obtain ⟨h1, e1⟩ := List.getElem?_eq_some_iff.mp a
  obtain ⟨h2, e2⟩ := List.getElem?_eq_some_iff.mp b
  exact (List.getElem_inj hN).mp (e1.trans e2.symm)
structure Rel (K : PySem.W.Frag) (m : Mp) (st : Sto) (H : Hp) : Prop where
  len : m.ad.length = st.length
  nd : m.ad.Nodup
  get : ∀ (i : Nat) o a, st[i]? = some o → m.ad[i]? = some a → ∃ u, H a = some u ∧ RepO K (hm m H) o u
  hd : ∀ a ∈ m.hid, (∃ u, H a = some u) ∧ a ∉ m.ad
structure Ext (m : Mp) (H : Hp) (m' : Mp) (H' : Hp) : Prop where
  pre : ∃ t, m'.ad = m.ad ++ t
  hid : m'.hid = m.hid
  keep : ∀ a ∈ m.hid, H' a = H a
  same : Same (hm m H) (hm m' H')
theorem Ext.refl {m : Mp} {H : Hp} : Ext m H m H := ⟨⟨[], by simp⟩, rfl, fun _ _ => rfl, .refl _⟩
theorem Ext.trans {m m1 m2 : Mp} {H H1 H2 : Hp} (a : Ext m H m1 H1) (b : Ext m1 H1 m2 H2) : Ext m H m2 H2 := by
  obtain ⟨t, e1⟩ := a.pre
  obtain ⟨u, e2⟩ := b.pre
  exact ⟨⟨t ++ u, by rw [e2, e1]; simp⟩, b.hid.trans a.hid, fun c hc => (b.keep c (by rw [a.hid]; exact hc)).trans (a.keep c hc), a.same.trans b.same⟩
theorem Rel.there {m : Mp} {st : Sto} {H : Hp} (r : Rel K m st H) {a : Addr} (h : a ∈ m.ad) : ∃ u, H a = some u := by
  obtain ⟨i, hi, e⟩ := List.getElem_of_mem h
  have e1 : m.ad[i]? = some a := by rw [List.getElem?_eq_getElem hi, e]
  have e2 : st[i]? = some (st[i]'(by rw [← r.len]; exact hi)) := List.getElem?_eq_getElem _
  obtain ⟨u, h1, _⟩ := r.get i _ a e2 e1
  exact ⟨u, h1⟩
theorem Rel.fresh_ne {m : Mp} {st : Sto} {H : Hp} (r : Rel K m st H) {p : Addr} (n : H p = none) : p ∉ m.ad ∧ p ∉ m.hid := by
  refine ⟨fun h => ?_, fun h => ?_⟩
  · obtain ⟨u, e⟩ := r.there h
    rw [n] at e; cases e
  · obtain ⟨⟨u, e⟩, _⟩ := r.hd p h
    rw [n] at e; cases e
theorem hm_upd {m : Mp} {H : Hp} {p : Addr} {o : HO} (n : H p = none) : Same (hm m H) (hm m (upd H p o)) := fun a u h => by
  obtain ⟨h1, h2⟩ := hm_some.mp h
  refine hm_some.mpr ⟨h1, ?_⟩
  rw [upd_ne (ne_of_none h2 n)]
  exact h2
theorem Rel.ext_fresh {m : Mp} {st : Sto} {H : Hp} (r : Rel K m st H) {p : Addr} {o : HO} (n : H p = none) : Ext m H m (upd H p o) :=
  ⟨⟨[], by simp⟩, rfl, fun a ha => upd_ne fun e => (r.fresh_ne n).2 (e ▸ ha), hm_upd n⟩
theorem Rel.fresh {m : Mp} {st : Sto} {H : Hp} (r : Rel K m st H) {p : Addr} {o : HO} (n : H p = none) : Rel K m st (upd H p o) :=
  ⟨r.len, r.nd, fun i ob a h1 h2 => by
    obtain ⟨u, e, q⟩ := r.get i ob a h1 h2
    exact ⟨u, by rw [upd_ne (ne_of_none e n)]; exact e, q.mono (hm_upd n)⟩, fun a ha => by
    obtain ⟨⟨u, e⟩, h⟩ := r.hd a ha
    exact ⟨⟨u, by rw [upd_ne (ne_of_none e n)]; exact e⟩, h⟩⟩
/-- a new changeable object -/
theorem Rel.new {m : Mp} {st : Sto} {H : Hp} (r : Rel K m st H) {p : Addr} {o : HO} {ob : MO} (n : H p = none) (q : RepO K (hm m H) ob o) : Rel K ⟨m.ad ++ [p], m.hid⟩ (st ++ [ob]) (upd H p o) ∧ Ext m H ⟨m.ad ++ [p], m.hid⟩ (upd H p o) := by
  obtain ⟨nm, nh⟩ := r.fresh_ne n
  have sm : Same (hm m H) (hm ⟨m.ad ++ [p], m.hid⟩ (upd H p o)) := fun a u h => by
    obtain ⟨h1, h2⟩ := hm_some.mp h
    have ne := ne_of_none h2 n
    refine hm_some.mpr ⟨⟨by simp [h1.1, ne], h1.2⟩, ?_⟩
    rw [upd_ne ne]
    exact h2
  refine ⟨⟨by simp [r.len], ?_, fun i o' a h1 h2 => ?_, fun a ha => ?_⟩, ⟨[p], rfl⟩, rfl, fun a ha => upd_ne fun e => nh (e ▸ ha), sm⟩
  · rw [List.nodup_append]
    refine ⟨r.nd, by simp, ?_⟩
    intro a ha b hb e
    have : b = p := by simpa using hb
    subst this; subst e
    exact nm ha
  · by_cases hi : i < m.ad.length
    · rw [List.getElem?_append_left (by rw [← r.len]; exact hi)] at h1
      rw [List.getElem?_append_left hi] at h2
      obtain ⟨u, e, z⟩ := r.get i o' a h1 h2
      exact ⟨u, by rw [upd_ne (ne_of_none e n)]; exact e, z.mono sm⟩
    · rw [List.getElem?_append_right (by rw [← r.len]; omega)] at h1
      rw [List.getElem?_append_right (by omega)] at h2
      have i0 : i - m.ad.length = 0 := by
        cases hk : i - m.ad.length with
        | zero => rfl
        | succ k => rw [hk] at h2; simp at h2
      have i1 : i - st.length = 0 := by rw [← r.len]; exact i0
      rw [i0] at h2; rw [i1] at h1
      simp at h1 h2
      subst h1; subst h2
      exact ⟨o, upd_same, q.mono sm⟩
  · obtain ⟨⟨u, e⟩, h⟩ := r.hd a ha
    have ne : a ≠ p := fun z => nh (z ▸ ha)
    exact ⟨⟨u, by rw [upd_ne ne]; exact e⟩, by simp [h, ne]⟩
/-- a changeable object is changed -/
theorem Rel.put {m : Mp} {st : Sto} {H : Hp} (r : Rel K m st H) {i : Nat} {a : Addr} {o : HO} {ob : MO} (hi : m.ad[i]? = some a) (q : RepO K (hm m H) ob o) : Rel K m (st.set i ob) (upd H a o) ∧ Ext m H m (upd H a o) := by
  have ha : a ∈ m.ad := List.mem_of_getElem? hi
  have nh : ∀ c ∈ m.hid, c ≠ a := fun c hc e => (r.hd c hc).2 (e ▸ ha)
  have sm : hm m (upd H a o) = hm m H := by
    funext b
    unfold hm
    split
    · rfl
    · rename_i hb
      exact upd_ne fun e => hb (.inl (e ▸ ha))
  refine ⟨⟨by simp [r.len], r.nd, fun j o' b h1 h2 => ?_, fun c hc => ?_⟩, ⟨[], by simp⟩, rfl, fun c hc => upd_ne (nh c hc), by rw [sm]; exact .refl _⟩
  · rw [sm]
    by_cases hj : j = i
    · subst hj
      rw [hi] at h2; cases h2
      have hl : j < st.length := by
        rw [← r.len]
        exact (List.getElem?_eq_some_iff.mp hi).1
      rw [List.getElem?_set_self hl] at h1
      cases h1
      exact ⟨o, upd_same, q⟩
    · rw [List.getElem?_set_ne (Ne.symm hj)] at h1
      obtain ⟨u, e, z⟩ := r.get j o' b h1 h2
      refine ⟨u, ?_, z⟩
      rw [upd_ne]
      · exact e
      · intro z; subst z
        exact hj (ndix r.nd h2 hi)
  · obtain ⟨⟨u, e⟩, h⟩ := r.hd c hc
    exact ⟨⟨u, by rw [upd_ne (nh c hc)]; exact e⟩, h⟩
/-- the last ones are left to themselves -/
theorem Rel.drop {m m' : Mp} {st st' : Sto} {H H' : Hp} (r : Rel K m st H) (r' : Rel K m' st' H') (e : Ext m H m' H') : Rel K m (st'.take st.length) H' ∧ Ext m H m H' := by
  obtain ⟨t, ht⟩ := e.pre
  have sm : Same (hm m' H') (hm m H') := fun a u h => by
    obtain ⟨h1, h2⟩ := hm_some.mp h
    exact hm_some.mpr ⟨⟨fun z => h1.1 (by rw [ht]; exact List.mem_append_left _ z), by rw [← e.hid]; exact h1.2⟩, h2⟩
  refine ⟨⟨?_, r.nd, fun i o a h1 h2 => ?_, fun a ha => ?_⟩, ⟨[], by simp⟩, rfl, e.keep, e.same.trans sm⟩
  · have h1 := r'.len
    have h2 := r.len
    rw [ht] at h1
    simp at *
    omega
  · have hi : i < m.ad.length := (List.getElem?_eq_some_iff.mp h2).1
    have hi2 : i < st.length := by rw [← r.len]; exact hi
    rw [List.getElem?_take_of_lt hi2] at h1
    obtain ⟨u, q, z⟩ := r'.get i o a h1 (by rw [ht, List.getElem?_append_left hi]; exact h2)
    exact ⟨u, q, z.mono sm⟩
  · obtain ⟨h1, h2⟩ := r'.hd a (by rw [e.hid]; exact ha)
    exact ⟨h1, fun z => h2 (by rw [ht]; exact List.mem_append_left _ z)⟩
/-- something is hidden meanwhile -/
theorem Rel.hide {m : Mp} {st : Sto} {H : Hp} (r : Rel K m st H) {p : Addr} {o : HO} (n : H p = none) : Rel K ⟨m.ad, p :: m.hid⟩ st (upd H p o) ∧ hm ⟨m.ad, p :: m.hid⟩ (upd H p o) = hm m H := by
  obtain ⟨nm, nh⟩ := r.fresh_ne n
  have sm : hm ⟨m.ad, p :: m.hid⟩ (upd H p o) = hm m H := by
    funext b
    by_cases hb : b = p
    · subst hb
      unfold hm
      simp [n]
    · unfold hm
      simp only [List.mem_cons, hb, false_or, upd_ne hb]
  refine ⟨⟨r.len, r.nd, fun i o' a h1 h2 => ?_, fun a ha => ?_⟩, sm⟩
  · obtain ⟨u, e, q⟩ := r.get i o' a h1 h2
    rw [sm]
    exact ⟨u, by rw [upd_ne (ne_of_none e n)]; exact e, q⟩
  · rcases List.mem_cons.mp ha with rfl | ha
    · exact ⟨⟨o, upd_same⟩, nm⟩
    · obtain ⟨⟨u, e⟩, h⟩ := r.hd a ha
      have ne : a ≠ p := fun z => nh (z ▸ ha)
      exact ⟨⟨u, by rw [upd_ne ne]; exact e⟩, h⟩
/-- what is hidden is changed -/
theorem Rel.hput {m : Mp} {st : Sto} {H : Hp} {p : Addr} (r : Rel K m st H) (o : HO) (hp : p ∈ m.hid) : Rel K m st (upd H p o) ∧ hm m (upd H p o) = hm m H := by
  have sm : hm m (upd H p o) = hm m H := by
    funext b
    by_cases hb : b = p
    · subst hb
      unfold hm
      simp [hp]
    · unfold hm
      simp only [upd_ne hb]
  refine ⟨⟨r.len, r.nd, fun i o' a h1 h2 => ?_, fun a ha => ?_⟩, sm⟩
  · obtain ⟨u, e, q⟩ := r.get i o' a h1 h2
    rw [sm]
    refine ⟨u, ?_, q⟩
    rw [upd_ne]
    · exact e
    · intro z
      exact (r.hd p hp).2 (z ▸ List.mem_of_getElem? h2)
  · obtain ⟨⟨u, e⟩, h⟩ := r.hd a ha
    by_cases hb : a = p
    · subst hb; exact ⟨⟨o, upd_same⟩, h⟩
    · exact ⟨⟨u, by rw [upd_ne hb]; exact e⟩, h⟩
/-- it comes to light: the heap without it -/
def out1 (H : Hp) (p : Addr) : Hp := fun a => if a = p then none else H a
theorem out1_upd {H : Hp} {p : Addr} {o : HO} (h : H p = some o) : upd (out1 H p) p o = H := by
  funext b
  unfold upd out1
  split
  · rename_i e; subst e; exact h.symm
  · rfl
theorem Rel.show {m : Mp} {st : Sto} {H : Hp} {p : Addr} (r : Rel K ⟨m.ad, p :: m.hid⟩ st H) (n : p ∉ m.hid) : Rel K m st (out1 H p) ∧ hm m (out1 H p) = hm ⟨m.ad, p :: m.hid⟩ H := by
  have np : p ∉ m.ad := (r.hd p (by simp)).2
  have sm : hm m (out1 H p) = hm ⟨m.ad, p :: m.hid⟩ H := by
    funext b
    by_cases hb : b = p
    · subst hb
      unfold hm out1
      simp
    · unfold hm out1
      simp only [List.mem_cons, hb, false_or, if_false]
  refine ⟨⟨r.len, r.nd, fun i o' a h1 h2 => ?_, fun a ha => ?_⟩, sm⟩
  · obtain ⟨u, e, q⟩ := r.get i o' a h1 h2
    rw [sm]
    refine ⟨u, ?_, q⟩
    unfold out1
    have ne : a ≠ p := fun z => np (z ▸ List.mem_of_getElem? h2)
    rw [if_neg ne]
    exact e
  · obtain ⟨⟨u, e⟩, h⟩ := r.hd a (List.mem_cons_of_mem _ ha)
    refine ⟨⟨u, ?_⟩, h⟩
    unfold out1
    have ne : a ≠ p := fun z => n (z ▸ ha)
    rw [if_neg ne]
    exact e

def RepV (K : PySem.W.Frag) (m : Mp) (H : Hp) : Vv → V → Prop
  | .d x, v => RepD K (hm m H) x v
  | .ref n, v => ∃ a, m.ad[n]? = some a ∧ v = .ref a
theorem RepV.ext {m m' : Mp} {H H' : Hp} (e : Ext m H m' H') : ∀ {x : Vv} {v : V}, RepV K m H x v → RepV K m' H' x v
  | .d x, _, h => RepD.mono e.same x _ h
  | .ref n, _, ⟨a, h, r⟩ => by
    obtain ⟨t, ht⟩ := e.pre
    exact ⟨a, by rw [ht, List.getElem?_append_left (List.getElem?_eq_some_iff.mp h).1]; exact h, r⟩
def RepE (K : PySem.W.Frag) (m : Mp) (H : Hp) (en : En) (σ : L2.St) : Prop :=
  en.length = σ.length ∧ ∀ (i : Nat) x, en[i]? = some (some x) → ∃ v, σ[i]? = some (some v) ∧ RepV K m H x v
theorem RepE.ext {m m' : Mp} {H H' : Hp} (e : Ext m H m' H') {en : En} {σ : L2.St} (h : RepE K m H en σ) : RepE K m' H' en σ :=
  ⟨h.1, fun i x q => let ⟨v, a, b⟩ := h.2 i x q; ⟨v, a, b.ext e⟩⟩
theorem RepE.set {m : Mp} {H : Hp} {en : En} {σ : L2.St} (h : RepE K m H en σ) {x : Vv} {v : V} (q : RepV K m H x v) (i : Nat) : RepE K m H (en.set i (some x)) (σ.set i (some v)) := by
  refine ⟨by simpa using h.1, fun j y e => ?_⟩
  by_cases hj : j = i
  · subst hj
    have hl : j < en.length := by
      have := (List.getElem?_eq_some_iff.mp e).1
      simpa using this
    rw [List.getElem?_set_self hl] at e
    cases e
    exact ⟨v, by rw [List.getElem?_set_self (by rw [← h.1]; exact hl)], q⟩
  · rw [List.getElem?_set_ne (Ne.symm hj)] at e
    obtain ⟨w, a, b⟩ := h.2 j y e
    exact ⟨w, by rw [List.getElem?_set_ne (Ne.symm hj)]; exact a, b⟩
def RepVs (K : PySem.W.Frag) (m : Mp) (H : Hp) (xs : List Vv) (vs : List V) : Prop := Paired (RepV K m H) xs vs

/-! ### a reading from an evaluation -/
/-- the class cls of an exception, its dict d -/
def RepX (K : PySem.W.Frag) (mg : Str → Option Value) (m : Mp) (H : Hp) (x : Xn) (cls : Value) (d : Option Addr) : Prop :=
  mg x.cls = some cls ∧ match d with
    | none => x.fs = []
    | some a => ∃ vs, H a = some (.xd ((x.fs.map (·.1)).zip vs)) ∧ (a ∉ m.ad ∧ a ∉ m.hid) ∧ RepDs K (hm m H) (x.fs.map (·.2)) vs
structure Gx where
  K : PySem.W.Frag
  mg : Str → Option Value
  W : WX
def Out (g : Gx) (m : Mp) (H : Hp) (σ : L2.St) {α β : Type} (rep : Mp → Hp → α → β → Prop) (Q : β → Hp → Prop) : R α → Prop
  | .ok x st => ∀ m' H' v, Ext m H m' H' → Rel g.K m' st H' → rep m' H' x v → Q v H'
  | .exc x st => ∀ m' H' cls d, Ext m H m' H' → Rel g.K m' st H' → RepX g.K g.mg m' H' x cls d → g.W cls d σ H'
  | .stuck => False
theorem Out.ext {g : Gx} {m m1 : Mp} {H H1 : Hp} {σ : L2.St} {α β : Type} {rep : Mp → Hp → α → β → Prop} {Q : β → Hp → Prop} {r : R α} (e : Ext m H m1 H1) (h : Out g m H σ rep Q r) : Out g m1 H1 σ rep Q r := by
  cases r with
  | ok x st => exact fun m' H' v q => h m' H' v (e.trans q)
  | exc x st => exact fun m' H' c d q => h m' H' c d (e.trans q)
  | stuck => exact h
/-- two steps -/
theorem Out.bind {g : Gx} {m : Mp} {H : Hp} {σ : L2.St} {α β γ δ : Type} {rep : Mp → Hp → α → β → Prop} {rep' : Mp → Hp → γ → δ → Prop} {Q : δ → Hp → Prop} {r : R α} {f : α → Sto → R γ} {P : β → Hp → Prop} (h : Out g m H σ rep' Q (r.bind f))
    (k : ∀ x st m' H' v, r = .ok x st → Ext m H m' H' → Rel g.K m' st H' → rep m' H' x v → Out g m' H' σ rep' Q (f x st) → P v H') : Out g m H σ rep P r := by
  cases r with
  | ok x st => exact fun m' H' v e l q => k x st m' H' v rfl e l q (Out.ext e h)
  | exc x st => exact h
  | stuck => exact h
def LE (g : Gx) (f : En → Sto → R Vv) : TE := fun σ H Q => ∃ m en st, Rel g.K m st H ∧ RepE g.K m H en σ ∧ Out g m H σ (RepV g.K) Q (f en st)
def LT (g : Gx) (f : En → Sto → R Bool) : TT := fun σ H Q => ∃ m en st, Rel g.K m st H ∧ RepE g.K m H en σ ∧ Out g m H σ (fun _ _ (a b : Bool) => a = b) Q (f en st)
def LA (g : Gx) (f : En → Sto → R (List Vv)) : TA := fun σ H Q => ∃ m en st, Rel g.K m st H ∧ RepE g.K m H en σ ∧ Out g m H σ (RepVs g.K) Q (f en st)
theorem pe_weak {X : Cx} {e : Expr} {t t' : TE} (h : PE X e t) (k : ∀ σ H Q, t' σ H Q → t σ H Q) : PE X e t' := ⟨fun pins s σ H Q I q => h.run pins s σ H Q I (k σ H Q q)⟩
theorem pt_weak {X : Cx} {e : Expr} {t t' : TT} (h : PT X e t) (k : ∀ σ H Q, t' σ H Q → t σ H Q) : PT X e t' := ⟨fun pins s σ H Q I q => h.run pins s σ H Q I (k σ H Q q)⟩
theorem pa_weak {X : Cx} {e : List Expr} {t t' : TA} (h : PA X e t) (k : ∀ σ H Q, t' σ H Q → t σ H Q) : PA X e t' := ⟨fun pos pins s σ H Q I q => h.run pos pins s σ H Q I (k σ H Q q)⟩
theorem ps_weak {X : Cx} {e : Stmt} {t t' : TS} (h : PS X e t) (k : ∀ D σ H, t' D σ H → t D σ H) : PS X e t' := ⟨fun pins s σ H D I q => h.run pins s σ H D I (k D σ H q)⟩
theorem pss_weak {X : Cx} {e : List Stmt} {t t' : TS} (h : PSs X e t) (k : ∀ D σ H, t' D σ H → t D σ H) : PSs X e t' := ⟨fun pins s σ H D I q => h.run pins s σ H D I (k D σ H q)⟩
end TW
namespace TW
open PySem PySem.Spec PyProof.Rows L2

/-! ### what the operators tell of data -/
mutual
def toPy : D → Option PyData
  | .non => some .none
  | .bl b => some (.bool b)
  | .int i => some (.int i)
  | .str s => some (.str s)
  | .tup xs => match toPys xs with | some ys => some (.tuple ys) | none => none
  | .lst xs => match toPys xs with | some ys => some (.list ys) | none => none
  | .dct _ _ => none
def toPys : List D → Option (List PyData)
  | [] => some []
  | x :: xs => match toPy x, toPys xs with | some y, some ys => some (y :: ys) | _, _ => none
end
mutual
/-- how deep -/
def dep : D → Nat
  | .tup xs => deps xs + 1
  | .lst xs => deps xs + 1
  | .dct _ xs => 100
  | _ => 0
def deps : List D → Nat
  | [] => 0
  | x :: xs => max (dep x) (deps xs)
end
mutual
/-- == of data -/
def eqD : D → D → Bool
  | .non, .non => true
  | .bl a, .bl b => a == b
  | .bl a, .int j => (if a then 1 else 0) == j
  | .int i, .bl b => i == (if b then 1 else 0)
  | .int i, .int j => i == j
  | .str x, .str y => x == y
  | .lst xs, .lst ys => eqDs xs ys
  | .tup xs, .tup ys => eqDs xs ys
  | _, _ => false
def eqDs : List D → List D → Bool
  | [], [] => true
  | x :: xs, y :: ys => eqD x y && eqDs xs ys
  | _, _ => false
end
mutual
theorem toPy_dep : ∀ (d : D), dep d ≤ 64 → ∃ y, toPy d = some y ∧ y.depth = dep d
  | .non, _ => ⟨_, rfl, rfl⟩
  | .bl _, _ => ⟨_, rfl, rfl⟩
  | .int _, _ => ⟨_, rfl, rfl⟩
  | .str _, _ => ⟨_, rfl, rfl⟩
  | .dct _ _, h => by simp [dep] at h
  | .tup xs, h => by
    obtain ⟨ys, e, q⟩ := toPys_dep xs (by simp only [dep] at h; omega)
    exact ⟨.tuple ys, by simp only [toPy, e], by simp only [PyData.depth, dep, q]⟩
  | .lst xs, h => by
    obtain ⟨ys, e, q⟩ := toPys_dep xs (by simp only [dep] at h; omega)
    exact ⟨.list ys, by simp only [toPy, e], by simp only [PyData.depth, dep, q]⟩
theorem toPys_dep : ∀ (ds : List D), deps ds ≤ 64 → ∃ ys, toPys ds = some ys ∧ PyData.depthAll ys = deps ds
  | [], _ => ⟨[], rfl, rfl⟩
  | x :: xs, h => by
    simp only [deps] at h
    obtain ⟨y, e, q⟩ := toPy_dep x (by omega)
    obtain ⟨ys, e', q'⟩ := toPys_dep xs (by omega)
    exact ⟨y :: ys, by simp only [toPys, e, e'], by simp only [PyData.depthAll, deps, q, q']⟩
end
mutual
theorem toPy_eq : ∀ (a b : D) {x y : PyData}, toPy a = some x → toPy b = some y → PyData.eqv x y = eqD a b
  | .tup xs, .tup ys, x, y, h, g => by
    simp only [toPy] at h g
    split at h <;> cases h
    split at g <;> cases g
    simp only [PyData.eqv, eqD]
    exact toPys_eq xs ys (by assumption) (by assumption)
  | .lst xs, .lst ys, x, y, h, g => by
    simp only [toPy] at h g
    split at h <;> cases h
    split at g <;> cases g
    simp only [PyData.eqv, eqD]
    exact toPys_eq xs ys (by assumption) (by assumption)
  | .non, b, x, y, h, g => by cases b <;> simp only [toPy] at h g <;> (try split at g) <;> cases h <;> cases g <;> simp [PyData.eqv, eqD]
  | .bl _, b, x, y, h, g => by cases b <;> simp only [toPy] at h g <;> (try split at g) <;> cases h <;> cases g <;> simp [PyData.eqv, eqD]
  | .int _, b, x, y, h, g => by cases b <;> simp only [toPy] at h g <;> (try split at g) <;> cases h <;> cases g <;> simp [PyData.eqv, eqD]
  | .str _, b, x, y, h, g => by cases b <;> simp only [toPy] at h g <;> (try split at g) <;> cases h <;> cases g <;> simp [PyData.eqv, eqD]
  | .dct _ _, b, x, y, h, g => by simp only [toPy] at h; cases h
  | .tup xs, .lst ys, x, y, h, g => by simp only [toPy] at h g; split at h <;> cases h; split at g <;> cases g; simp [PyData.eqv, eqD]
  | .lst xs, .tup ys, x, y, h, g => by simp only [toPy] at h g; split at h <;> cases h; split at g <;> cases g; simp [PyData.eqv, eqD]
  | .tup xs, .non, x, y, h, g => by simp only [toPy] at h g; split at h <;> cases h; cases g; simp [PyData.eqv, eqD]
  | .tup xs, .bl _, x, y, h, g => by simp only [toPy] at h g; split at h <;> cases h; cases g; simp [PyData.eqv, eqD]
  | .tup xs, .int _, x, y, h, g => by simp only [toPy] at h g; split at h <;> cases h; cases g; simp [PyData.eqv, eqD]
  | .tup xs, .str _, x, y, h, g => by simp only [toPy] at h g; split at h <;> cases h; cases g; simp [PyData.eqv, eqD]
  | .tup xs, .dct _ _, x, y, h, g => by simp only [toPy] at g; cases g
  | .lst xs, .non, x, y, h, g => by simp only [toPy] at h g; split at h <;> cases h; cases g; simp [PyData.eqv, eqD]
  | .lst xs, .bl _, x, y, h, g => by simp only [toPy] at h g; split at h <;> cases h; cases g; simp [PyData.eqv, eqD]
  | .lst xs, .int _, x, y, h, g => by simp only [toPy] at h g; split at h <;> cases h; cases g; simp [PyData.eqv, eqD]
  | .lst xs, .str _, x, y, h, g => by simp only [toPy] at h g; split at h <;> cases h; cases g; simp [PyData.eqv, eqD]
  | .lst xs, .dct _ _, x, y, h, g => by simp only [toPy] at g; cases g
theorem toPys_eq : ∀ (as bs : List D) {xs ys : List PyData}, toPys as = some xs → toPys bs = some ys → PyData.eqvAll xs ys = eqDs as bs
  | [], [], xs, ys, h, g => by simp only [toPys] at h g; cases h; cases g; simp [PyData.eqvAll, eqDs]
  | [], b :: bs, xs, ys, h, g => by
    simp only [toPys] at h g; cases h
    split at g <;> cases g
    simp [PyData.eqvAll, eqDs]
  | a :: as, [], xs, ys, h, g => by
    simp only [toPys] at h g; cases g
    split at h <;> cases h
    simp [PyData.eqvAll, eqDs]
  | a :: as, b :: bs, xs, ys, h, g => by
    simp only [toPys] at h g
    split at h <;> cases h
    split at g <;> cases g
    rename_i h1 h2 _ _ _ _ g1 g2
    simp only [PyData.eqvAll, eqDs, toPy_eq a b h1 g1, toPys_eq as bs h2 g2]
end
variable {K : PySem.W.Frag} {H : Hp}
mutual
theorem RepD.dp : ∀ (d : D) (v : V) {y : PyData}, RepD K H d v → toPy d = some y → Dp K H v y ∧ y.canLay0 = true
  | .non, _, _, h, e => by simp only [RepD, toPy] at h e; subst h; cases e; exact ⟨.non, rfl⟩
  | .bl _, _, _, h, e => by simp only [RepD, toPy] at h e; subst h; cases e; exact ⟨.bl _, rfl⟩
  | .int _, _, _, h, e => by simp only [RepD, toPy] at h e; subst h; cases e; exact ⟨.int _, rfl⟩
  | .str _, _, _, h, e => by simp only [RepD, toPy] at h e; obtain ⟨rfl, _, q⟩ := h; cases e; exact ⟨.str _, by simpa only [PyData.canLay0] using q⟩
  | .dct _ _, _, _, _, e => by simp only [toPy] at e; cases e
  | .tup xs, _, _, h, e => by
    simp only [RepD, toPy] at h e
    split at e <;> cases e
    obtain ⟨a, vs, rfl, q, _, z⟩ := h
    obtain ⟨p, c⟩ := RepDs.dp xs vs z (by assumption)
    exact ⟨.tup q p, by simpa only [PyData.canLay0] using c⟩
  | .lst xs, _, _, h, e => by
    simp only [RepD, toPy] at h e
    split at e <;> cases e
    obtain ⟨a, vs, rfl, q, _, z⟩ := h
    obtain ⟨p, c⟩ := RepDs.dp xs vs z (by assumption)
    exact ⟨.lst q p, by simpa only [PyData.canLay0] using c⟩
theorem RepDs.dp : ∀ (ds : List D) (vs : List V) {ys : List PyData}, RepDs K H ds vs → toPys ds = some ys → DpAll K H vs ys ∧ PyData.canLayAll0 ys = true
  | [], _, _, h, e => by simp only [RepDs, toPys] at h e; subst h; cases e; exact ⟨.nil, rfl⟩
  | d :: ds, _, _, h, e => by
    obtain ⟨v, r, rfl, p, q⟩ := h.uncons
    simp only [toPys] at e
    split at e <;> cases e
    obtain ⟨a1, a2⟩ := RepD.dp d v p (by assumption)
    obtain ⟨b1, b2⟩ := RepDs.dp ds r q (by assumption)
    exact ⟨.cons a1 b1, by simp only [PyData.canLayAll0, a2, b2, Bool.and_self]⟩
end
/-- what == asks and tells -/
theorem eq_dp {a b : D} {x y : V} (ha : RepD K H a x) (hb : RepD K H b y) (da : dep a ≤ 64) (db : dep b ≤ 64) :
    ∃ d e, Dp K H x d ∧ Dp K H y e ∧ SeqAt.shaped d = true ∧ SeqAt.shaped e = true ∧ PyData.eqv d e = eqD a b := by
  obtain ⟨d, e1, z1⟩ := toPy_dep a da
  obtain ⟨e, e2, z2⟩ := toPy_dep b db
  obtain ⟨p1, q1⟩ := RepD.dp a x ha e1
  obtain ⟨p2, q2⟩ := RepD.dp b y hb e2
  refine ⟨d, e, p1, p2, ?_, ?_, toPy_eq a b e1 e2⟩
  · unfold SeqAt.shaped; rw [q1, z1]; simp [da]
  · unfold SeqAt.shaped; rw [q2, z2]; simp [db]
end TW
namespace TW
open PySem PySem.Spec PyProof.Rows L2

/-! ### the operators over data -/
def sgn (c : Nat) : Str := ⟨#[c]⟩
def binD : Operator → D → D → Option D
  | .Add, .int i, .int j => some (.int (i + j))
  | .Add, .str a, .str b => if a.length + b.length ≤ sizeLine then some (.str (a ++ b)) else none
  | .Add, .lst a, .lst b => if a.length + b.length ≤ sizeLine then some (.lst (a ++ b)) else none
  | .Add, .tup a, .tup b => if a.length + b.length ≤ sizeLine then some (.tup (a ++ b)) else none
  | .Sub, .int i, .int j => some (.int (i - j))
  | .Mult, .int i, .int j => if i.natAbs < 18446744073709551616 ∨ j.natAbs < 18446744073709551616 ∨ i.natAbs.log2 + j.natAbs.log2 < 100000000 then some (.int (i * j)) else none
  | .Mult, .str s, .int n => if 0 ≤ n ∧ n < 1000 ∧ s.length < 1000 then some (.str (Txt.mul s n)) else none
  | .Mult, .tup xs, .int k => if -1000 ≤ k ∧ k ≤ 1000 ∧ xs.length ≤ 1000 then some (.tup (List.replicate k.toNat xs).flatten) else none
  | .FloorDiv, .int i, .int j => if j ≠ 0 ∧ j.natAbs.log2 < 9000 then some (.int (i.fdiv j)) else none
  | .Mod, .int i, .int j => if j ≠ 0 then some (.int (i.fmod j)) else none
  | .Pow, .int i, .int j => if 0 ≤ j ∧ j ≤ 1000000 ∧ i.natAbs < 2 ^ 64 then some (.int (i ^ j.toNat)) else none
  | _, _, _ => none
/-- op= of ints and texts -/
def augD : Operator → D → D → Option D
  | .Add, .int i, .int j => some (.int (i + j))
  | .Add, .str a, .str b => if a.length + b.length ≤ sizeLine then some (.str (a ++ b)) else none
  | .Sub, .int i, .int j => some (.int (i - j))
  | _, _, _ => none
/-- a flat thing -/
def flatD : D → Bool
  | .non => true | .bl _ => true | .int _ => true | .str _ => true | _ => false
def inD (x : D) (xs : List D) : Bool := xs.any fun y => eqD y x
def strIn (a b : Str) : Bool := match a.cps.toList with
  | [c] => decide (c ∈ b.cps.toList)
  | _ => !(Builtin.Str.occurrences b a 0 b.length 1).isEmpty
def eqO (a b : D) : Option Bool := if dep a ≤ 64 ∧ dep b ≤ 64 then some (eqD a b) else none
def ltO : D → D → Option Bool
  | .int i, .int j => some (decide (i < j))
  | .str i, .str j => some (decide (i.cps.toList < j.cps.toList))
  | _, _ => none
def leO : D → D → Option Bool
  | .int i, .int j => some (decide (i ≤ j))
  | _, _ => none
def gtO : D → D → Option Bool
  | .int i, .int j => some (decide (j < i))
  | _, _ => none
def geO : D → D → Option Bool
  | .int i, .int j => some (decide (j ≤ i))
  | _, _ => none
/-- a key of a dict -/
def keyOf : D → Option Key
  | .str s => some (.inr s)
  | .int i => some (.inl i)
  | _ => none
def dget : List Key → List D → Key → Option D
  | k :: ks, x :: xs, j => if k = j then some x else dget ks xs j
  | _, _, _ => none
def inO (x : D) : D → Option Bool
  | .str b => match x with | .str a => some (strIn a b) | _ => none
  | .lst xs => if flatD x && xs.all flatD then some (inD x xs) else none
  | .tup xs => if flatD x && xs.all flatD then some (inD x xs) else none
  | .dct ks _ => (match keyOf x with | some k => some (ks.any fun j => decide (j = k)) | none => none)
  | _ => none
def noneD : D → Bool
  | .non => true
  | _ => false
def isO (x : D) : D → Option Bool
  | .non => some (noneD x)
  | _ => none
def notO (o : Option Bool) : Option Bool := match o with | some b => some (!b) | none => none
def cmpD (op : CmpOp) (a b : D) : Option Bool := match op with
  | .Eq => eqO a b
  | .NotEq => notO (eqO a b)
  | .Lt => ltO a b
  | .LtE => leO a b
  | .Gt => gtO a b
  | .GtE => geO a b
  | .In => inO a b
  | .NotIn => notO (inO a b)
  | .Is => isO a b
  | .IsNot => notO (isO a b)
def truD : D → Option Bool
  | .non => some false
  | .bl b => some b
  | .int i => some (i != 0)
  | .str y => some ((y.length : Int) != 0)
  | .lst xs => some (!xs.isEmpty)
  | .tup xs => some (!xs.isEmpty)
  | .dct ks xs => some (!ks.isEmpty)
/-- isinstance of a built-in class -/
def tyD : D → String
  | .non => "NoneType" | .bl _ => "bool" | .int _ => "int" | .str _ => "str" | .tup _ => "tuple" | .lst _ => "list" | .dct _ _ => "dict"
def isiN (n t : String) : Bool := n == t || (n == "bool" && t == "int")
def isiD (t : String) (x : D) : D := .bl (isiN (tyD x) t)
inductive Bf where
  | len | abs | max2 | min2 | divmod | all | any | tupleOf | listOf | intOf
def bools : List D → Option (List Bool)
  | [] => some []
  | .bl b :: xs => match bools xs with | some bs => some (b :: bs) | none => none
  | _ :: _ => none
def lenD : List D → Option D
  | [.str s] => some (.int s.length)
  | [.lst xs] => some (.int xs.length)
  | [.tup xs] => some (.int xs.length)
  | _ => none
def absD : List D → Option D
  | [.int i] => some (.int (if i < 0 then -i else i))
  | _ => none
def maxD : List D → Option D
  | [.int i, .int j] => some (.int (if j > i then j else i))
  | _ => none
def minD : List D → Option D
  | [.int i, .int j] => some (.int (if j < i then j else i))
  | _ => none
def dmD : List D → Option D
  | [.int i, .int j] => if 0 < j ∧ j.natAbs.log2 < 9000 then some (.tup [.int (i / j), .int (i % j)]) else none
  | _ => none
def allD : List D → Option D
  | [.lst xs] => match bools xs with | some bs => some (.bl (bs.all id)) | none => none
  | _ => none
def anyD : List D → Option D
  | [.lst xs] => match bools xs with | some bs => some (.bl (bs.any id)) | none => none
  | _ => none
def tupD : List D → Option D
  | [.lst xs] => some (.tup xs)
  | [.tup xs] => some (.tup xs)
  | _ => none
def lstD : List D → Option D
  | [.lst xs] => some (.lst xs)
  | [.tup xs] => some (.lst xs)
  | _ => none
def intD : List D → Option D
  | [.int i] => some (.int i)
  | [.bl b] => some (.int (if b = true then 1 else 0))
  | _ => none
def bfD (f : Bf) : List D → Option D := match f with
  | .len => lenD
  | .abs => absD
  | .max2 => maxD
  | .min2 => minD
  | .divmod => dmD
  | .all => allD
  | .any => anyD
  | .tupleOf => tupD
  | .listOf => lstD
  | .intOf => intD
inductive Mf where
  | join | upper | append
def strsD : List D → Option (List Str)
  | [] => some []
  | .str b :: xs => match strsD xs with | some bs => some (b :: bs) | none => none
  | _ :: _ => none
def joinD : D → List D → Option D
  | .str a, [.lst xs] => match strsD xs with
    | some ys => if (ys.map (·.length)).sum + ys.length * a.length ≤ 16777216 then some (.str (Txt.join a ys)) else none
    | none => none
  | _, _ => none
def upperD : D → List D → Option D
  | .str a, [] => if a.length ≤ 1000000 ∧ (Txt.upper a).length ≤ sizeLine ∧ PyData.strOk (Txt.upper a) = true then some (.str (Txt.upper a)) else none
  | _, _ => none
def idxD : D → D → Option D
  | .lst xs, .int i => atI xs i
  | .tup xs, .int i => atI xs i
  | .str s, .int i => match atI s.cps.toList i with | some c => some (.str ⟨#[c]⟩) | none => none
  | .dct ks xs, y => (match keyOf y with | some k => dget ks xs k | none => none)
  | _, _ => none
def cutD (xs : List D) (lo hi : Option Int) : List D := (xs.drop (HT.sIx xs.length 0 lo)).take (HT.sIx xs.length xs.length hi - HT.sIx xs.length 0 lo)
def slcD : D → Option Int → Option Int → Option D
  | .str s, lo, hi => some (.str (cutS s lo hi))
  | .lst xs, lo, hi => some (.lst (cutD xs lo hi))
  | .tup xs, lo, hi => some (.tup (cutD xs lo hi))
  | _, _, _ => none
/-- the items that are walked -/
def itemsD : D → Option (List D)
  | .lst xs => some xs
  | .tup xs => some xs
  | .str s => some (s.cps.toList.map fun c => .str ⟨#[c]⟩)
  | _ => none

/-! alike to the last bit -/
mutual
def sameD : D → D → Bool
  | .non, .non => true
  | .bl a, .bl b => a == b
  | .int a, .int b => decide (a = b)
  | .str a, .str b => decide (a = b)
  | .tup a, .tup b => sameDs a b
  | .lst a, .lst b => sameDs a b
  | .dct a c, .dct b d => decide (a = b) && sameDs c d
  | _, _ => false
def sameDs : List D → List D → Bool
  | [], [] => true
  | x :: xs, y :: ys => sameD x y && sameDs xs ys
  | _, _ => false
end
mutual
theorem sameD_eq : ∀ a b : D, sameD a b = true → a = b
  | .non, b, h => by cases b <;> simp [sameD] at h ⊢
  | .bl a, b, h => by cases b <;> simp [sameD] at h ⊢; exact h
  | .int a, b, h => by cases b <;> simp [sameD] at h ⊢; exact h
  | .str a, b, h => by cases b <;> simp [sameD] at h ⊢; exact h
  | .tup a, b, h => by cases b <;> simp [sameD] at h ⊢; exact sameDs_eq _ _ h
  | .lst a, b, h => by cases b <;> simp [sameD] at h ⊢; exact sameDs_eq _ _ h
  | .dct a c, b, h => by cases b <;> simp [sameD] at h ⊢; exact ⟨h.1, sameDs_eq _ _ h.2⟩
theorem sameDs_eq : ∀ a b : List D, sameDs a b = true → a = b
  | [], b, h => by cases b <;> simp [sameDs] at h ⊢
  | x :: xs, b, h => by
    cases b with
    | nil => simp [sameDs] at h
    | cons y ys =>
      simp only [sameDs, Bool.and_eq_true] at h
      rw [sameD_eq _ _ h.1, sameDs_eq _ _ h.2]
end
mutual
theorem sameD_refl : ∀ a : D, sameD a a = true
  | .non => by simp [sameD]
  | .bl a => by simp [sameD]
  | .int a => by simp [sameD]
  | .str a => by simp [sameD]
  | .tup a => by simp only [sameD]; exact sameDs_refl a
  | .lst a => by simp only [sameD]; exact sameDs_refl a
  | .dct a c => by simp only [sameD, decide_true, Bool.true_and]; exact sameDs_refl c
theorem sameDs_refl : ∀ a : List D, sameDs a a = true
  | [] => by simp [sameDs]
  | x :: xs => by simp only [sameDs, sameD_refl x, sameDs_refl xs, Bool.and_self]
end
/-- what is walked: the items, and the changeable lists that must stay meanwhile -/
structure Wl where
  xs : List D
  pins : List (Nat × List D)
def pinOk (ps : List (Nat × List D)) (st : Sto) : Bool := ps.all fun p => match st[p.1]? with | some (.lst ys) => sameDs ys p.2 | _ => false
/-- the items in pairs with their numbers -/
def enumD : Nat → List D → List D
  | _, [] => []
  | k, x :: xs => .tup [.int k, x] :: enumD (k + 1) xs
theorem enumD_len : ∀ (k : Nat) (xs : List D), (enumD k xs).length = xs.length
  | _, [] => rfl
  | k, x :: xs => by simp [enumD, enumD_len (k + 1) xs]
theorem enumD_get : ∀ (k : Nat) (xs : List D) (i : Nat) (d : D), (enumD k xs)[i]? = some d → ∃ x, xs[i]? = some x ∧ d = .tup [.int ((k + i : Nat) : Int), x]
  | _, [], _, _, h => by simp [enumD] at h
  | k, x :: xs, 0, d, h => by
    simp only [enumD, List.getElem?_cons_zero, Option.some.injEq] at h
    exact ⟨x, rfl, by rw [← h, Nat.add_zero]⟩
  | k, x :: xs, i + 1, d, h => by
    simp only [enumD, List.getElem?_cons_succ] at h
    obtain ⟨y, h1, h2⟩ := enumD_get (k + 1) xs i d h
    exact ⟨y, by simpa using h1, by rw [h2]; congr 3; congr 1; omega⟩

/-- the rows of a zip -/
def zipD : List D → List D → List D
  | x :: xs, y :: ys => .tup [x, y] :: zipD xs ys
  | _, _ => []
theorem zipD_len : ∀ (xs ys : List D), (zipD xs ys).length = min xs.length ys.length
  | [], _ => by simp [zipD]
  | _ :: _, [] => by simp [zipD]
  | x :: xs, y :: ys => by simp only [zipD, List.length_cons, zipD_len xs ys]; omega
theorem zipD_get : ∀ (xs ys : List D) (i : Nat) (d : D), (zipD xs ys)[i]? = some d → ∃ x y, xs[i]? = some x ∧ ys[i]? = some y ∧ d = .tup [x, y]
  | [], _, i, d, h => by simp [zipD] at h
  | _ :: _, [], i, d, h => by simp [zipD] at h
  | x :: xs, y :: ys, 0, d, h => by simp only [zipD, List.getElem?_cons_zero, Option.some.injEq] at h; exact ⟨x, y, rfl, rfl, h.symm⟩
  | x :: xs, y :: ys, i + 1, d, h => by simp only [zipD, List.getElem?_cons_succ] at h ⊢; exact zipD_get xs ys i d h
/-! ### the text, with its names resolved -/
mutual
inductive E where
  | var (i : Nat) | con (d : D) | bin (op : Operator) (a b : E) | neg (a : E) | not (a : E) | and (a b : E) | or (a b : E)
  | cmp (op : CmpOp) (a b : E) | chain (p q : CmpOp) (a b c : E) | ite (c a b : E)
  | call (f : Nat) (as ks : Es) (ord : List (Nat ⊕ D)) | blt (f : Bf) (as : Es) | meth (m : Mf) (o : E) (as : Es)
  | tup (as : Es) | lst (as : Es) | dct0 | dcd (as : Es) | idx (a i : E) | slc (a : E) (lo hi : Eo)
  | isi (a : E) (t : String) | tin (neg : Bool) (t : List (Str × D)) (a : E) | tget (t : List (Str × D)) (a : E) | nope | new (e : E) | lc (elt : E) (tg : Tg) (it : Ir) (ifs : Es) (own : List Nat)
inductive Es where
  | nil | cons (a : E) (r : Es)
inductive Eo where
  | none | some (a : E)
inductive Tg where
  | name (i : Nat) | tup (ts : Tgs) | sub (o i : E) | star (is : List Nat) (j : Nat) (nw : Bool)
inductive Tgs where
  | nil | cons (t : Tg) (r : Tgs)
inductive Ir where
  | val (e : E) | range1 (e : E) | enum (e : E) | zip (q : Bool) (as : Es)
end
mutual
inductive S where
  | asg (t : Tg) (e : E) | expr (e : E) | ret (e : E) | iff (c : E) (a b : Ss) | for_ (t : Tg) (it : Ir) (b : Ss) | aug (i : Nat) (op : Operator) (e : E) | pass | nope | while_ (c : E) (b : Ss) | par (is : List Nat) (as : Es)
inductive Ss where
  | nil | cons (s : S) (r : Ss)
end

def der (st : Sto) : Vv → Option D
  | .d x => some x
  | .ref n => match st[n]? with | some (.lst xs) => some (.lst xs) | _ => none
def ders (st : Sto) : List Vv → Option (List D)
  | [] => some []
  | x :: xs => match der st x, ders st xs with | some a, some as => some (a :: as) | _, _ => none
def pures : List Vv → Option (List D)
  | [] => some []
  | .d x :: xs => match pures xs with | some as => some (x :: as) | none => none
  | .ref _ :: _ => none
def give (o : Option D) (st : Sto) : R Vv := match o with | some z => .ok (.d z) st | none => .stuck
def op2 (f : D → D → Option D) (x y : Vv) (st : Sto) : R Vv := match der st x, der st y with | some a, some b => give (f a b) st | _, _ => .stuck
def op1 (f : D → Option D) (x : Vv) (st : Sto) : R Vv := match der st x with | some a => give (f a) st | _ => .stuck
def opn (f : List D → Option D) (xs : List Vv) (st : Sto) : R Vv := match ders st xs with | some as => give (f as) st | none => .stuck
def cmpV (op : CmpOp) (x y : Vv) (st : Sto) : R Vv := op2 (fun a b => match cmpD op a b with | some k => some (.bl k) | none => none) x y st
def truV (x : Vv) (st : Sto) : R Bool := match der st x with | some a => (match truD a with | some k => .ok k st | none => .stuck) | none => .stuck
/-- no refusal here -/
def R.calm {α : Type} : R α → R α
  | .exc _ _ => .stuck
  | r => r
abbrev Fs := Nat → List Vv → Sto → R Vv
/-- the arguments in the parameters' order, defaults among them -/
def arrD : List (Nat ⊕ D) → List Vv → Option (List Vv)
  | [], _ => some []
  | .inl i :: r, xs => match xs[i]?, arrD r xs with | some x, some ys => some (x :: ys) | _, _ => none
  | .inr d :: r, xs => match arrD r xs with | some ys => some (.d d :: ys) | none => none
def wipeE (en : En) : List Nat → En
  | [] => en
  | v :: vs => (wipeE en vs).set v none
/-- o[i] = v: o a changeable list -/
def putV (o i v : Vv) (st : Sto) : R Unit := match o, i, v with
  | .ref n, .d (.int k), .d x => match st[n]? with
    | some (.lst xs) => (match ixN xs.length k with | some j => .ok () (st.set n (.lst (xs.set j x))) | none => .stuck)
    | _ => .stuck
  | _, _, _ => .stuck
def appV (o : Vv) (vs : List Vv) (st : Sto) : R Vv := match o, vs with
  | .ref n, [.d x] => match st[n]? with
    | some (.lst xs) => if xs.length < sizeLine then .ok (.d .non) (st.set n (.lst (xs ++ [x]))) else .stuck
    | _ => .stuck
  | _, _ => .stuck
def opm (f : D → List D → Option D) (x : Vv) (vs : List Vv) (st : Sto) : R Vv := match der st x, ders st vs with | some a, some bs => give (f a bs) st | _, _ => .stuck
/-- the receiver of a method -/
def isTxt : Vv → Bool
  | .d (.str _) => true
  | _ => false
def isLst (st : Sto) : Vv → Bool
  | .ref n => match st[n]? with | some (.lst _) => true | _ => false
  | .d (.lst _) => true
  | _ => false
def recv (m : Mf) (x : Vv) (st : Sto) : Bool := match m with
  | .join => isTxt x
  | .upper => isTxt x
  | .append => isLst st x
def doM (m : Mf) (x : Vv) (vs : List Vv) (st : Sto) : R Vv := match m with
  | .join => opm joinD x vs st
  | .upper => opm upperD x vs st
  | .append => appV x vs st
/-- new: what was laid by itself is kept as a changeable object -/
def newV (v : Vv) (st : Sto) : R Vv := match v with
  | .d (.lst xs) => .ok (.ref st.length) (st ++ [.lst xs])
  | _ => .stuck
def kIv (x : Vv) (st : Sto) : R Wl := match x with
  | .d d => (match itemsD d with | some xs => .ok ⟨xs, []⟩ st | none => .stuck)
  | .ref n => (match st[n]? with | some (.lst xs) => .ok ⟨xs, [(n, xs)]⟩ st | _ => .stuck)
def kIr (x : Vv) (st : Sto) : R Wl := match x with
  | .d (.int n) => if -(2 ^ 62) ≤ n ∧ n < 2 ^ 62 then .ok ⟨(List.range n.toNat).map fun (i : Nat) => D.int i, []⟩ st else .stuck
  | _ => .stuck
def kEn (x : Vv) (st : Sto) : R Wl := match x with
  | .d (.lst xs) => .ok ⟨enumD 0 xs, []⟩ st
  | .d (.tup xs) => .ok ⟨enumD 0 xs, []⟩ st
  | .ref n => (match st[n]? with | some (.lst xs) => .ok ⟨enumD 0 xs, [(n, xs)]⟩ st | _ => .stuck)
  | _ => .stuck
/-- a row that is walked in a zip: its items, the changeable list that must stay -/
def rowV (x : Vv) (st : Sto) : Option (List D × List (Nat × List D)) := match x with
  | .d (.lst xs) => some (xs, [])
  | .d (.tup xs) => some (xs, [])
  | .ref n => (match st[n]? with | some (.lst xs) => some (xs, [(n, xs)]) | _ => none)
  | _ => none
/-- .. or a text -/
def rowT (x : Vv) (st : Sto) : Option (List D × List (Nat × List D)) := match x with
  | .d (.str s) => some (s.cps.toList.map fun c => .str ⟨#[c]⟩, [])
  | x => rowV x st
def kZip (q : Bool) (vs : List Vv) (st : Sto) : R Wl := match vs with
  | [x, y] => (match rowT x st, rowT y st with
    | some (xs, ps), some (ys, rs) => if q = true → xs.length = ys.length then .ok ⟨zipD xs ys, ps ++ rs⟩ st else .stuck
    | _, _ => .stuck)
  | _ => .stuck
/-- several names at once -/
def setAll : List Nat → List Vv → En → Option En
  | [], [], en => some en
  | i :: is, v :: vs, en => setAll is vs (en.set i (some v))
  | _, _, _ => none
/-- {k: v, ..} -/
def mkDct : List D → Option (List Key × List D)
  | [] => some ([], [])
  | k :: v :: r => match keyOf k, mkDct r with
    | some k, some (ks, vs) => if (ks.any fun j => decide (j = k)) = true then none else some (k :: ks, v :: vs)
    | _, _ => none
  | _ => none
def kDcd (vs : List Vv) (st : Sto) : R Vv := match pures vs with
  | some ds => (match mkDct ds with | some (ks, xs) => if ks.length ≤ 15 then .ok (.d (.dct ks xs)) st else .stuck | none => .stuck)
  | none => .stuck
/-- x in T, T[x], T a table of the module by texts -/
def kTin (neg : Bool) (t : List (Str × D)) (x : Vv) (st : Sto) : R Vv := match x with
  | .d (.str z) => .ok (.d (.bl (if neg = true then !(t.lookup z).isSome else (t.lookup z).isSome))) st
  | _ => .stuck
def kTget (t : List (Str × D)) (x : Vv) (st : Sto) : R Vv := match x with
  | .d (.str z) => give (t.lookup z) st
  | _ => .stuck
/-- a, b, *c = v -/
def starV (is : List Nat) (j : Nat) (nw : Bool) (v : Vv) (en : En) (st : Sto) : R En := match rowV v st with
  | some (xs, _) => if is.length ≤ xs.length then (match setAll is ((xs.take is.length).map Vv.d) en with
      | some en' => if nw = true then .ok (en'.set j (some (.ref st.length))) (st ++ [.lst (xs.drop is.length)]) else .ok (en'.set j (some (.d (.lst (xs.drop is.length))))) st
      | none => .stuck) else .stuck
  | none => .stuck
/-- a comprehension's turns -/
def lcLoop (ps : List (Nat × List D)) (g : D → En → Sto → R En) (t : En → Sto → R Bool) (e : En → Sto → R Vv) (en : En) : List D → List D → Sto → R Vv
  | [], acc, st => if pinOk ps st then .ok (.d (.lst acc)) st else .stuck
  | x :: xs, acc, st => if pinOk ps st then (g x en st).bind fun en2 st => (t en2 st).bind fun k st =>
      if k then (e en2 st).bind fun y st => (match y with | .d z => lcLoop ps g t e en xs (acc ++ [z]) st | _ => .stuck) else lcLoop ps g t e en xs acc st
    else .stuck
mutual
def evE (F : Fs) : E → En → Sto → R Vv
  | .var i, en, st => match en[i]? with | some (some v) => .ok v st | _ => .stuck
  | .con d, _, st => .ok (.d d) st
  | .bin op a b, en, st => (evE F a en st).bind fun x st => (evE F b en st).bind fun y st => op2 (binD op) x y st
  | .neg a, en, st => (evE F a en st).bind fun x st => match x with | .d (.int i) => .ok (.d (.int (-i))) st | _ => .stuck
  | .not a, en, st => (evE F a en st).bind fun x st => (truV x st).bind fun k st => .ok (.d (.bl (!k))) st
  | .and a b, en, st => (evE F a en st).bind fun x st => (truV x st).bind fun k st => if k then evE F b en st else .ok x st
  | .or a b, en, st => (evE F a en st).bind fun x st => (truV x st).bind fun k st => if k then .ok x st else evE F b en st
  | .cmp op a b, en, st => (evE F a en st).bind fun x st => (evE F b en st).bind fun y st => cmpV op x y st
  | .chain p q a b c, en, st => (evE F a en st).bind fun x st => (evE F b en st).bind fun y st => (cmpV p x y st).bind fun k st =>
      match k with
      | .d (.bl true) => (evE F c en st).bind fun z st => cmpV q y z st
      | .d (.bl false) => .ok (.d (.bl false)) st
      | _ => .stuck
  | .ite c a b, en, st => (evE F c en st).bind fun x st => (truV x st).bind fun k st => if k then evE F a en st else evE F b en st
  | .call f as ks ord, en, st => (evEs F as en st).bind fun vs st => (evEs F ks en st).bind fun ws st => match arrD ord (vs ++ ws) with | some xs => F f xs st | none => .stuck
  | .blt f as, en, st => (evEs F as en st).bind fun vs st => opn (bfD f) vs st
  | .meth m o as, en, st => (evE F o en st).bind fun x st => if recv m x st then (evEs F as en st).bind fun vs st => doM m x vs st else .stuck
  | .tup as, en, st => (evEs F as en st).bind fun vs st => match pures vs with | some xs => if xs.length ≤ sizeLine then .ok (.d (.tup xs)) st else .stuck | none => .stuck
  | .lst as, en, st => (evEs F as en st).bind fun vs st => match pures vs with | some xs => if xs.length ≤ sizeLine then .ok (.d (.lst xs)) st else .stuck | none => .stuck
  | .dct0, _, st => .ok (.d (.dct [] [])) st
  | .dcd as, en, st => (evEs F as en st).calm.bind kDcd
  | .idx a i, en, st => (evE F a en st).bind fun x st => (evE F i en st).bind fun y st => op2 idxD x y st
  | .slc a lo hi, en, st => (evE F a en st).bind fun x st => (evO F lo en st).bind fun l st => (evO F hi en st).bind fun h st => op1 (fun d => slcD d l h) x st
  | .isi a t, en, st => (evE F a en st).bind fun x st => op1 (fun d => some (isiD t d)) x st
  | .tin neg t a, en, st => (evE F a en st).bind (kTin neg t)
  | .tget t a, en, st => (evE F a en st).bind (kTget t)
  | .nope, _, _ => .stuck
  | .new e, en, st => (evE F e en st).bind newV
  | .lc elt tg it ifs own, en, st => (evI F it en st).bind fun w st => if w.xs.length ≤ sizeLine then (lcLoop w.pins (fun x en st => evG F tg (.d x) en st) (fun en st => evT F ifs en st) (fun en st => evE F elt en st) (wipeE en own) w.xs [] st).calm else .stuck
def evEs (F : Fs) : Es → En → Sto → R (List Vv)
  | .nil, _, st => .ok [] st
  | .cons a r, en, st => (evE F a en st).bind fun x st => (evEs F r en st).bind fun xs st => .ok (x :: xs) st
def evT (F : Fs) : Es → En → Sto → R Bool
  | .nil, _, st => .ok true st
  | .cons a r, en, st => (evE F a en st).bind fun x st => (truV x st).bind fun k st => if k then evT F r en st else .ok false st
def evO (F : Fs) : Eo → En → Sto → R (Option Int)
  | .none, _, st => .ok none st
  | .some a, en, st => (evE F a en st).bind fun x st => match x with | .d (.int i) => .ok (some i) st | _ => .stuck
def evG (F : Fs) : Tg → Vv → En → Sto → R En
  | .name i, v, en, st => .ok (en.set i (some v)) st
  | .tup ts, v, en, st => match v with | .d (.tup xs) => evGs F ts xs en st | _ => .stuck
  | .star is j nw, v, en, st => starV is j nw v en st
  | .sub o i, v, en, st => (evE F o en st).bind fun x st => (evE F i en st).bind fun y st => (putV x y v st).bind fun _ st => .ok en st
def evGs (F : Fs) : Tgs → List D → En → Sto → R En
  | .nil, [], en, st => .ok en st
  | .cons t r, x :: xs, en, st => (evG F t (.d x) en st).bind fun en st => evGs F r xs en st
  | _, _, _, _ => .stuck
def evI (F : Fs) : Ir → En → Sto → R Wl
  | .enum e, en, st => (evE F e en st).bind kEn
  | .zip q as, en, st => (evEs F as en st).bind (kZip q)
  | .val e, en, st => (evE F e en st).bind kIv
  | .range1 e, en, st => (evE F e en st).bind kIr
end
inductive RS where
  | nx (en : En) (st : Sto) | rt (v : Vv) (st : Sto) | bk (en : En) (st : Sto) | ct (en : En) (st : Sto) | exc (x : Xn) (en : En) (st : Sto) | stuck
/-- an expression's end within a statement -/
def R.go {α : Type} (r : R α) (en : En) (f : α → Sto → RS) : RS := match r with
  | .ok a st => f a st
  | .exc x st => .exc x en st
  | .stuck => .stuck
def RS.seq (r : RS) (f : En → Sto → RS) : RS := match r with
  | .nx en st => f en st
  | r => r
/-- a loop's turn -/
def RS.turn (r : RS) (f : En → Sto → RS) : RS := match r with
  | .nx en st => f en st
  | .ct en st => f en st
  | .bk en st => .nx en st
  | r => r
def forLoop (ps : List (Nat × List D)) (g : D → En → Sto → R En) (b : En → Sto → RS) : List D → En → Sto → RS
  | [], en, st => if pinOk ps st then .nx en st else .stuck
  | x :: xs, en, st => if pinOk ps st then (g x en st).calm.go en fun en st => (b en st).turn fun en st => forLoop ps g b xs en st else .stuck
def whLoop (c : En → Sto → R Bool) (b : En → Sto → RS) : Nat → En → Sto → RS
  | 0, _, _ => .stuck
  | n + 1, en, st => (c en st).go en fun k st => if k then (b en st).turn fun en st => whLoop c b n en st else .nx en st
def WF : Nat := 1000000000
mutual
def evS (F : Fs) : S → En → Sto → RS
  | .asg t e, en, st => (evE F e en st).go en fun v st => (evG F t v en st).calm.go en fun en st => .nx en st
  | .expr e, en, st => (evE F e en st).go en fun _ st => .nx en st
  | .ret e, en, st => (evE F e en st).go en fun v st => .rt v st
  | .iff c a b, en, st => ((evE F c en st).bind truV).go en fun k st => if k then evSs F a en st else evSs F b en st
  | .for_ t it b, en, st => (evI F it en st).go en fun w st => forLoop w.pins (fun x en st => evG F t (.d x) en st) (fun en st => evSs F b en st) w.xs en st
  | .aug i op e, en, st => match en[i]? with
      | some (some x) => (evE F e en st).go en fun y st => (op2 (augD op) x y st).go en fun z st => .nx (en.set i (some z)) st
      | _ => .stuck
  | .pass, en, st => .nx en st
  | .nope, _, _ => .stuck
  | .while_ c b, en, st => whLoop (fun en st => (evE F c en st).bind truV) (fun en st => evSs F b en st) WF en st
  | .par is as, en, st => (evEs F as en st).go en fun vs st => match setAll is vs en with | some en => .nx en st | none => .stuck
def evSs (F : Fs) : Ss → En → Sto → RS
  | .nil, en, st => .nx en st
  | .cons s r, en, st => (evS F s en st).seq fun en st => evSs F r en st
end
end TW
set_option maxHeartbeats 4000000
namespace TW
open PySem PySem.Spec PyProof.Rows L2
/-! ### a tuple so many times: once, or not at all -/
theorem tmul_one (l : Addr) (items : Array Value) (n : Nat) (dd : Option Addr) (sl : Array (Option Value)) (x : Int) (u : Tok) (c0 : (decide (x < -(2 ^ 63)) || decide (x ≥ 2 ^ 63)) = false) (c1 : (items.isEmpty || x == 1) = true) :
    Meets (Builtin.«tuple.__mul__» ⟨[.ref l, .int x u], []⟩) (fun _ R s => s.heap.get? l = some { cls := .type "tuple", dict := dd, data := .seq items n, slots := sl } ∧ R (.ok (.ret (.ref l))) s) :=
  .of_wp fun prog w A R s h => by
    obtain ⟨hp, g, d, tk, os⟩ := s
    obtain ⟨hl, h⟩ := h
    have f1 := AutoSeq1.idx_int
    wp_walk using wpAny_loadPart' hl
    refine wpAny_ite_false (decide_eq_false (by rw [c0]; exact Bool.false_ne_true)) ?_
    wp_walk using wpAny_loadPart' hl
    exact ⟨_, rfl, h⟩
theorem tmul_nil (l : Addr) (items : Array Value) (n : Nat) (dd : Option Addr) (sl : Array (Option Value)) (x : Int) (u : Tok) (c0 : (decide (x < -(2 ^ 63)) || decide (x ≥ 2 ^ 63)) = false) (c1 : (items.isEmpty || x == 1) = false) (c2 : (decide (x ≤ 0) || items.isEmpty) = true) :
    Meets (Builtin.«tuple.__mul__» ⟨[.ref l, .int x u], []⟩) (fun _ R s => s.heap.get? l = some { cls := .type "tuple", dict := dd, data := .seq items n, slots := sl } ∧
      R (.ok (.ret (.ref s.heap.objs.size))) { s with heap := s.heap.push { cls := .type "tuple", data := .seq #[] } }) :=
  .of_wp fun prog w A R s h => by
    obtain ⟨hp, g, d, tk, os⟩ := s
    obtain ⟨hl, h⟩ := h
    have f1 := AutoSeq1.idx_int
    wp_walk using wpAny_loadPart' hl
    refine wpAny_ite_false (decide_eq_false (by rw [c0]; exact Bool.false_ne_true)) ?_
    wp_walk using wpAny_loadPart' hl
    exact ⟨_, rfl, h⟩
def rTMul (K : PySem.W.Frag) : R2 := fun x y H Q => ∃ l k xs, x = .ref l ∧ y = .int k ∧ SqT K H l xs ∧ -1000 ≤ k ∧ k ≤ 1000 ∧ xs.length ≤ 1000 ∧ (xs = [] ∨ k = 1 → Q (.ref l) H) ∧ (xs ≠ [] → k ≠ 1 → ∀ p, H p = none → Q (.ref p) (upd H p (.tup (List.replicate k.toNat xs).flatten)))
theorem op_tmul {X : Cx} : OpR X (binaryOp .Mult) (rTMul X.K) := by
  intro pins s σ H x y v u Q I rx ry h
  obtain ⟨l, k, xs, rfl, rfl, hT, h0, h1, hz, q1, q2⟩ := h
  by_cases big : xs ≠ [] ∧ 2 ≤ k
  · exact op_repT pins s σ H _ _ v u Q I rx ry ⟨l, k, xs, rfl, rfl, hT, big.1, big.2, h1, hz, q2 big.1 (by omega)⟩
  cases rx
  obtain ⟨t, rfl⟩ := ry
  obtain ⟨its, r, ⟨⟨cls, dd, data, sl⟩, ho, hc, n, hd⟩, hs⟩ := I.tuple hT
  simp only at hc hd
  subst hc hd
  have hle : its.length = xs.length := r.length.symm
  have c0 : (decide (k < -(2 ^ 63)) || decide (k ≥ 2 ^ 63)) = false := by
    rw [decide_eq_false (by omega), decide_eq_false (by omega)] <;> rfl
  by_cases one : xs = [] ∨ k = 1
  · have c1 : (its.toArray.isEmpty || k == 1) = true := by
      rcases one with e | e
      · rw [e] at hle
        have : its = [] := List.eq_nil_of_length_eq_zero hle
        subst this; rfl
      · subst e; simp
    refine wpAny_binaryOp_repeat_ref (T := "tuple") (U := "int") (by decide) ⟨_, ho, rfl⟩ (fun s' => typeIs_int s' k t) noFill_tuple_mul F.fills_int_mul F.slot_int_rmul repeat_tuple F.slot_int_index.lookup
      (call_meets F.slot_int_rmul (typeIs_int s k t) F.entry_int_rmul (F.args_int_rmul_2 _ _) (int_rmul_tuple k t l its.toArray n dd sl)
        ⟨ho, rfl, ⟨_, ho, rfl⟩, call_meets F.slot_tuple_mul ⟨_, ho, rfl⟩ F.entry_tuple_mul (F.args_tuple_mul_2 _ _) (tmul_one l its.toArray n dd sl k t c0 c1) ⟨ho, ?_⟩⟩)
    exact ⟨.ref l, H, I, rfl, q1 one⟩
  · have hn : xs ≠ [] := fun e => one (.inl e)
    have hk : k ≤ 0 := by
      have : ¬ 2 ≤ k := fun e => big ⟨hn, e⟩
      have : k ≠ 1 := fun e => one (.inr e)
      omega
    have hi : its.toArray.isEmpty = false := by
      cases its with
      | nil => exact absurd (List.eq_nil_of_length_eq_zero hle.symm) hn
      | cons a b => rfl
    have c1 : (its.toArray.isEmpty || k == 1) = false := by
      rw [hi, Bool.false_or]; exact beq_eq_false_iff_ne.mpr (by omega)
    have c2 : (decide (k ≤ 0) || its.toArray.isEmpty) = true := by rw [decide_eq_true hk]; rfl
    refine wpAny_binaryOp_repeat_ref (T := "tuple") (U := "int") (by decide) ⟨_, ho, rfl⟩ (fun s' => typeIs_int s' k t) noFill_tuple_mul F.fills_int_mul F.slot_int_rmul repeat_tuple F.slot_int_index.lookup
      (call_meets F.slot_int_rmul (typeIs_int s k t) F.entry_int_rmul (F.args_int_rmul_2 _ _) (int_rmul_tuple k t l its.toArray n dd sl)
        ⟨ho, rfl, ⟨_, ho, rfl⟩, call_meets F.slot_tuple_mul ⟨_, ho, rfl⟩ F.entry_tuple_mul (F.args_tuple_mul_2 _ _) (tmul_nil l its.toArray n dd sl k t c0 c1 c2) ⟨ho, ?_⟩⟩)
    have e0 : (List.replicate k.toNat xs).flatten = [] := by rw [show k.toNat = 0 by omega]; rfl
    have q := q2 hn (fun e => one (.inr e))
    rw [e0] at q
    exact ⟨.ref s.heap.objs.size, _, I.laid (t' := s.toks) (o := .tup []) (fun b ob q => Heap.get?_push_of_some _ q) (Nat.le_refl _) ⟨Nat.zero_le _, _, .nil, IsTup.new _ _⟩, rfl, q _ (I.hok.fresh (Nat.le_refl _))⟩
end TW
namespace TW
open PySem PySem.Spec PyProof.Rows L2
variable {X : Cx}

/-! ### a value that is read -/
def RepR (K : PySem.W.Frag) (m : Mp) (H : Hp) : D → V → Prop
  | .lst xs, v => ∃ a vs, v = .ref a ∧ SqL K H a vs ∧ xs.length ≤ sizeLine ∧ RepDs K (hm m H) xs vs
  | d, v => RepD K (hm m H) d v
theorem RepD.r {K : PySem.W.Frag} {m : Mp} {H : Hp} {d : D} {v : V} (h : RepD K (hm m H) d v) : RepR K m H d v := by
  cases d with
  | lst xs => simp only [RepD] at h; obtain ⟨a, vs, e, q, l, z⟩ := h; exact ⟨a, vs, e, hm_same.seq q, l, z⟩
  | _ => exact h
theorem RepR.d {K : PySem.W.Frag} {m : Mp} {H : Hp} {d : D} {v : V} (h : RepR K m H d v) : RepD K H d v := by
  cases d with
  | lst xs => simp only [RepD]; obtain ⟨a, vs, e, q, l, z⟩ := h; exact ⟨a, vs, e, q, l, z.mono hm_same⟩
  | _ => exact RepD.mono (hm_same (m := m)) _ _ h
theorem der_rep {K : PySem.W.Frag} {m : Mp} {H : Hp} {st : Sto} {x : Vv} {v : V} {d : D} (r : Rel K m st H) (e : der st x = some d) (h : RepV K m H x v) : RepR K m H d v := by
  cases x with
  | d y => simp only [der, Option.some.injEq] at e; subst e; exact RepD.r h
  | ref n =>
    simp only [der] at e
    split at e
    · rename_i xs hx
      cases e
      obtain ⟨a, ha, rfl⟩ := h
      obtain ⟨u, hu, vs, rfl, q, l⟩ := r.get n _ a hx ha
      exact ⟨a, vs, rfl, .inl (.inl hu), l, q⟩
    · cases e
theorem ders_rep {K : PySem.W.Frag} {m : Mp} {H : Hp} {st : Sto} (r : Rel K m st H) : ∀ {xs : List Vv} {vs : List V} {ds : List D}, ders st xs = some ds → RepVs K m H xs vs → Paired (RepR K m H) ds vs
  | [], _, _, e, .nil => by simp only [ders, Option.some.injEq] at e; subst e; exact .nil
  | x :: xs, _, _, e, .cons h t => by
    simp only [ders] at e
    split at e
    · rename_i h1 h2
      cases e
      exact .cons (der_rep r h1 h) (ders_rep r h2 t)
    · cases e
/-- the end of an operation that gives data -/
def Giv (K : PySem.W.Frag) (m : Mp) (H : Hp) (st : Sto) (z : D) (Q : VK) : Prop := ∀ m' H' v, Ext m H m' H' → Rel K m' st H' → RepD K (hm m' H') z v → Q v H'
theorem Giv.now {K : PySem.W.Frag} {m : Mp} {H : Hp} {st : Sto} {z : D} {Q : VK} {v : V} (g : Giv K m H st z Q) (r : Rel K m st H) (h : RepD K (hm m H) z v) : Q v H := g m H v .refl r h
theorem Giv.bl {K : PySem.W.Frag} {m : Mp} {H : Hp} {st : Sto} {Q : VK} {b : Bool} (g : Giv K m H st (.bl b) Q) (r : Rel K m st H) : Q (.bl b) H := g.now r (by simp only [RepD])
theorem Giv.int {K : PySem.W.Frag} {m : Mp} {H : Hp} {st : Sto} {Q : VK} {b : Int} (g : Giv K m H st (.int b) Q) (r : Rel K m st H) : Q (.int b) H := g.now r (by simp only [RepD])
theorem Giv.str {K : PySem.W.Frag} {m : Mp} {H : Hp} {st : Sto} {Q : VK} {b : Str} (g : Giv K m H st (.str b) Q) (r : Rel K m st H) (h1 : b.length ≤ sizeLine) (h2 : PyData.strOk b = true) : Q (.str b) H := g.now r (by simp only [RepD]; exact ⟨trivial, h1, h2⟩)
theorem Giv.lst {K : PySem.W.Frag} {m : Mp} {H : Hp} {st : Sto} {Q : VK} {ds : List D} {vs : List V} {p : Addr} (g : Giv K m H st (.lst ds) Q) (r : Rel K m st H) (h : RepDs K (hm m H) ds vs) (l : ds.length ≤ sizeLine) (n : H p = none) : Q (.ref p) (upd H p (.lst vs)) :=
  g m _ _ (r.ext_fresh n) (r.fresh n) (by
    simp only [RepD]
    exact ⟨p, vs, rfl, .inl (.inl (hm_some.mpr ⟨r.fresh_ne n, upd_same⟩)), l, h.mono (hm_upd n)⟩)
theorem Giv.tup {K : PySem.W.Frag} {m : Mp} {H : Hp} {st : Sto} {Q : VK} {ds : List D} {vs : List V} {p : Addr} (g : Giv K m H st (.tup ds) Q) (r : Rel K m st H) (h : RepDs K (hm m H) ds vs) (l : ds.length ≤ sizeLine) (n : H p = none) : Q (.ref p) (upd H p (.tup vs)) :=
  g m _ _ (r.ext_fresh n) (r.fresh n) (by
    simp only [RepD]
    exact ⟨p, vs, rfl, .inl (.inl (hm_some.mpr ⟨r.fresh_ne n, upd_same⟩)), l, h.mono (hm_upd n)⟩)
/-- an operation of two by its function over data -/
def r2 (K : PySem.W.Frag) (f : D → D → Option D) : R2 := fun v w H Q => ∃ m st x y z, Rel K m st H ∧ RepR K m H x v ∧ RepR K m H y w ∧ f x y = some z ∧ Giv K m H st z Q

/-- the same, a new list by itself -/
def GivF (K : PySem.W.Frag) (m : Mp) (H : Hp) (st : Sto) (z : D) (Q : VK) : Prop := match z with
  | .lst ds => ∀ m' H' vs p, Ext m H m' H' → Rel K m' st H' → RepDs K (hm m' H') ds vs → ds.length ≤ sizeLine → H' p = none → Q (.ref p) (upd H' p (.lst vs))
  | z => Giv K m H st z Q
def r2F (K : PySem.W.Frag) (f : D → D → Option D) : R2 := fun v w H Q => ∃ m st x y z, Rel K m st H ∧ RepR K m H x v ∧ RepR K m H y w ∧ f x y = some z ∧ GivF K m H st z Q

theorem cat_l {l b : Addr} {pins : List (Addr × Obj)} {σ : L2.St} {H : Hp} {s : Shared} {Q : VK} {xs zs : List V} (I : Inv X pins σ H s) (hl : SqL X.K H l xs) (hb : SqL X.K H b zs) (hz : xs.length + zs.length ≤ sizeLine)
    (q : ∀ p, H p = none → Q (.ref p) (upd H p (.lst (xs ++ zs)))) : wpAny (model X.prog X.w) X.A (binaryOp .Add (.ref l) (.ref b)) (EP X pins σ Q) X.xe s := by
  obtain ⟨its, r1, ⟨⟨cls, dd, data, sl⟩, n, ho, hc, _, hd⟩, _⟩ := I.list hl
  obtain ⟨its2, r2, ⟨⟨cls2, dd2, data2, sl2⟩, n2, ho2, hc2, _, hd2⟩, _⟩ := I.list hb
  simp only at hc hd hc2 hd2
  subst hc hd hc2 hd2
  have e : its.toArray ++ its2.toArray = (its ++ its2).toArray := by simp
  refine concat_meets ⟨_, ho, rfl⟩ ⟨_, ho2, rfl⟩ noFill_list_add seq_list_add PySem.F.slot_list_add PySem.F.entry_list_add (PySem.F.args_list_add_2 _ _) (list_addW l b its.toArray its2.toArray n n2 dd dd2 sl sl2 (by
    rw [List.size_toArray, List.size_toArray, ← r1.length, ← r2.length]; exact hz)) ⟨ho, ho2, ?_⟩
  rw [e]
  exact ⟨.ref _, _, I.lnew (t' := s.toks) (r1.append r2) (by rw [List.length_append]; exact hz), rfl, q _ I.fresh⟩
theorem strOk_append {a b : Str} (h1 : PyData.strOk a = true) (h2 : PyData.strOk b = true) : PyData.strOk (a ++ b) = true := by
  unfold PyData.strOk at *
  show (a.cps ++ b.cps).all _ = true
  rw [Array.all_append, h1, h2]
  rfl
theorem len_append (a b : Str) : (a ++ b).length = a.length + b.length := by
  show (a.cps ++ b.cps).size = a.cps.size + b.cps.size
  exact Array.size_append
theorem op_addF : OpR X (binaryOp .Add) (r2F X.K (binD .Add)) := by
  intro pins s σ H x y v u Q I rx ry h
  obtain ⟨m, st, a, b, z, rel, ra, rb, e, g⟩ := h
  cases a <;> cases b <;> simp only [binD] at e <;> (try cases e)
  · simp only [RepR, RepD] at ra rb
    subst ra rb
    exact op_add pins s σ H _ _ v u Q I rx ry ⟨_, _, rfl, rfl, Giv.int g rel⟩
  · split at e <;> cases e
    simp only [RepR, RepD] at ra rb
    obtain ⟨rfl, l1, o1⟩ := ra
    obtain ⟨rfl, l2, o2⟩ := rb
    rename_i hl
    exact op_add_str pins s σ H _ _ v u Q I rx ry ⟨_, _, rfl, rfl, hl, Giv.str g rel (by rw [len_append]; exact hl) (strOk_append o1 o2)⟩
  · split at e <;> cases e
    rename_i hl
    simp only [RepR, RepD] at ra rb
    obtain ⟨a1, vs1, rfl, q1, z1, p1⟩ := ra
    obtain ⟨a2, vs2, rfl, q2, z2, p2⟩ := rb
    refine op_catA pins s σ H _ _ v u Q I rx ry ⟨a1, a2, vs1, vs2, rfl, rfl, same_tup hm_same q1, same_tup hm_same q2, by rw [← p1.length, ← p2.length]; exact hl, fun hx => ?_, fun hx hy => ?_, fun hx hy p n => Giv.tup g rel (p1.append p2) (by rw [List.length_append]; exact hl) n⟩
    · subst hx
      have e1 := List.length_eq_zero_iff.mp p1.length
      rw [e1, List.nil_append] at g
      exact Giv.now g rel (by simp only [RepD]; exact ⟨a2, vs2, rfl, q2, z2, p2⟩)
    · subst hy
      have e1 := List.length_eq_zero_iff.mp p2.length
      rw [e1, List.append_nil] at g
      exact Giv.now g rel (by simp only [RepD]; exact ⟨a1, vs1, rfl, q1, z1, p1⟩)
  · split at e <;> cases e
    rename_i hl
    obtain ⟨a1, vs1, rfl, q1, z1, p1⟩ := ra
    obtain ⟨a2, vs2, rfl, q2, z2, p2⟩ := rb
    cases rx; cases ry
    exact cat_l I q1 q2 (by rw [← p1.length, ← p2.length]; exact hl) fun p n => g m H _ p .refl rel (p1.append p2) (by rw [List.length_append]; exact hl) n
theorem op_subD : OpR X (binaryOp .Sub) (r2 X.K (binD .Sub)) := by
  intro pins s σ H x y v u Q I rx ry h
  obtain ⟨m, st, a, b, z, rel, ra, rb, e, g⟩ := h
  cases a <;> cases b <;> simp only [binD] at e <;> (try cases e)
  simp only [RepR, RepD] at ra rb
  subst ra rb
  exact op_sub pins s σ H _ _ v u Q I rx ry ⟨_, _, rfl, rfl, g.int rel⟩
theorem mul_all {c : Array Nat} {p : Nat → Bool} (h : c.all p = true) : ∀ (n : Nat) (acc : Array Nat), acc.all p = true → ((List.replicate n c).foldl (· ++ ·) acc).all p = true ∧ ((List.replicate n c).foldl (· ++ ·) acc).size = acc.size + n * c.size
  | 0, acc, ha => ⟨ha, by simp⟩
  | n + 1, acc, ha => by
    simp only [List.replicate_succ, List.foldl_cons]
    obtain ⟨h1, h2⟩ := mul_all h n (acc ++ c) (by rw [Array.all_append, ha, h]; rfl)
    refine ⟨h1, ?_⟩
    rw [h2, Array.size_append, Nat.succ_mul]
    omega
theorem mul_ok {s : Str} {n : Int} (h : PyData.strOk s = true) (h0 : 0 ≤ n) (hn : n < 1000) (hs : s.length < 1000) : PyData.strOk (Txt.mul s n) = true ∧ (Txt.mul s n).length ≤ sizeLine := by
  unfold Txt.mul
  rw [sizeLine_eq]
  split
  · exact ⟨by simp [PyData.strOk, Str.empty], Nat.zero_le _⟩
  · split
    · exact ⟨h, by omega⟩
    · obtain ⟨h1, h2⟩ := mul_all h n.toNat #[] (by simp)
      refine ⟨h1, ?_⟩
      show ((List.replicate n.toNat s.cps).foldl (· ++ ·) #[]).size ≤ _
      rw [h2]
      have a : n.toNat ≤ 1000 := by omega
      have b : s.cps.size ≤ 1000 := Nat.le_of_lt hs
      have := Nat.mul_le_mul a b
      simp only [Array.size_empty]
      omega
theorem mulOk {i j : Int} (h3 : i.natAbs.log2 + j.natAbs.log2 < 100000000) : IntMulOk i j := by
  have b : ∀ x : Int, Builtin.Int.intBits x ≤ x.natAbs.log2 + 1 := fun x => by
    unfold Builtin.Int.intBits
    split <;> omega
  have h1 := b i
  have h2 := b j
  have e : bitsLine = 134217728 := by decide
  unfold IntMulOk
  intro z
  rw [Bool.and_eq_true] at z
  have z2 := z.2
  unfold Builtin.Int.intTooBig at z2
  have z3 := of_decide_eq_true z2
  rw [e] at z3
  omega
theorem bits64 {i : Int} (h : i.natAbs < 18446744073709551616) : Builtin.Int.intBits i ≤ 64 := by
  unfold Builtin.Int.intBits
  split
  · omega
  · rename_i h0
    have h1 : i.natAbs ≠ 0 := by simpa using h0
    have := (Nat.log2_lt (k := 64) h1).mpr (by simpa using h)
    omega
theorem mulOk3 {i j : Int} (h : i.natAbs < 18446744073709551616 ∨ j.natAbs < 18446744073709551616 ∨ i.natAbs.log2 + j.natAbs.log2 < 100000000) : IntMulOk i j := by
  rcases h with h | h | h
  · exact .of_left (bits64 h)
  · exact .of_right (bits64 h)
  · exact mulOk h
theorem RepDs.rep {K : PySem.W.Frag} {H : Hp} {ds : List D} {vs : List V} (h : RepDs K H ds vs) : ∀ n : Nat, RepDs K H (List.replicate n ds).flatten (List.replicate n vs).flatten
  | 0 => by simp only [List.replicate, List.flatten_nil]; exact .nil
  | n + 1 => by simp only [List.replicate_succ, List.flatten_cons]; exact h.append (RepDs.rep h n)
theorem op_mulD : OpR X (binaryOp .Mult) (r2 X.K (binD .Mult)) := by
  intro pins s σ H x y v u Q I rx ry h
  obtain ⟨m, st, a, b, z, rel, ra, rb, e, g⟩ := h
  cases a <;> cases b <;> simp only [binD] at e <;> (try cases e)
  · split at e <;> cases e
    simp only [RepR, RepD] at ra rb
    subst ra rb
    rename_i hb
    exact opI (C := fun i j => i.natAbs < 18446744073709551616 ∨ j.natAbs < 18446744073709551616 ∨ i.natAbs.log2 + j.natAbs.log2 < 100000000) (fun _ _ _ _ _ _ _ hc q => mul_int q (mulOk3 hc)) pins s σ H _ _ v u Q I rx ry ⟨_, _, rfl, rfl, hb, g.int rel⟩
  · split at e <;> cases e
    rename_i x n hh
    obtain ⟨h1, h2, h3⟩ := hh
    simp only [RepR, RepD] at ra rb
    subst rb
    obtain ⟨rfl, l1, o1⟩ := ra
    obtain ⟨t, rfl⟩ := rx
    obtain ⟨t', rfl⟩ := ry
    obtain ⟨k1, k2⟩ := mul_ok o1 h1 h2 h3
    refine SB.mul ⟨?_, fun _ _ => ?_, fun _ _ => ?_⟩ fun t' k => ⟨.str _, H, I.tok _, ⟨_, rfl⟩, g.str rel k2 k1⟩
    · simp; omega
    · rename_i hn _
      have hpos : (0 : Int) < n := by omega
      have : (x.length : Int) ≤ (2 ^ 63 - 1) / n := by
        rw [Int.le_ediv_iff_mul_le hpos]
        have a1 : (x.length : Int) ≤ 1000 := by omega
        have a2 : n ≤ 1000 := by omega
        have := Int.mul_le_mul a1 a2 (by omega) (by omega)
        omega
      omega
    · have a : n.toNat ≤ 1000 := by omega
      have b : x.length ≤ 1000 := by omega
      have := Nat.mul_le_mul b a
      show decide (x.length * n.toNat > sizeLine) = false
      rw [sizeLine_eq]
      simp
      omega
  · split at e <;> cases e
    rename_i hh
    obtain ⟨h1, h2, h3⟩ := hh
    simp only [RepR, RepD] at ra rb
    subst rb
    obtain ⟨a1, vs, rfl, q1, z1, p1⟩ := ra
    have len := p1.length
    refine op_tmul pins s σ H _ _ v u Q I rx ry ⟨a1, _, vs, rfl, rfl, same_tup hm_same q1, h1, h2, by omega, fun o => ?_, fun hn h1' p np => ?_⟩
    · refine g.now rel ?_
      have e : ∀ {α : Type} (l : List α) (k : Int), l = [] ∨ k = 1 → (List.replicate k.toNat l).flatten = l := by
        intro α l k h
        rcases h with rfl | rfl
        · induction k.toNat with
          | zero => rfl
          | succ n ih => rw [List.replicate_succ, List.flatten_cons, ih]; rfl
        · simp
      rw [e _ _ (by
        rcases o with z | z
        · left; exact List.eq_nil_of_length_eq_zero (by rw [len, z]; rfl)
        · exact .inr z)]
      simp only [RepD]
      exact ⟨a1, vs, rfl, q1, z1, p1⟩
    · refine g.tup rel (p1.rep _) ?_ np
      rw [PyProof.Rows.lm_len_rep_flat]
      have : ∀ k : Int, k ≤ 1000 → k.toNat ≤ 1000 := fun k h => by omega
      have := Nat.mul_le_mul (this _ h2) h3
      rw [sizeLine_eq]
      omega
theorem noPylong_neg {i j : Int} (h : j.natAbs.log2 < 9000) : Builtin.divisionGoesByPylong i j = false := by
  unfold Builtin.divisionGoesByPylong
  simp only [Bool.and_eq_false_iff, decide_eq_false_iff_not]
  left
  split <;> omega
theorem op_fdivD : OpR X (binaryOp .FloorDiv) (r2 X.K (binD .FloorDiv)) := by
  intro pins s σ H x y v u Q I rx ry h
  obtain ⟨m, st, a, b, z, rel, ra, rb, e, g⟩ := h
  cases a <;> cases b <;> simp only [binD] at e <;> (try cases e)
  split at e <;> cases e
  rename_i hb
  simp only [RepR, RepD] at ra rb
  subst ra rb
  obtain ⟨t, rfl⟩ := rx
  obtain ⟨t', rfl⟩ := ry
  exact floordiv_int hb.1 ⟨.int _, H, I.tok _, ⟨_, rfl⟩, g.int rel⟩ (.inl (noPylong_neg hb.2))
theorem op_modD : OpR X (binaryOp .Mod) (r2 X.K (binD .Mod)) := by
  intro pins s σ H x y v u Q I rx ry h
  obtain ⟨m, st, a, b, z, rel, ra, rb, e, g⟩ := h
  cases a <;> cases b <;> simp only [binD] at e <;> (try cases e)
  split at e <;> cases e
  rename_i hb
  simp only [RepR, RepD] at ra rb
  subst ra rb
  exact op_modN pins s σ H _ _ v u Q I rx ry ⟨_, _, rfl, rfl, hb, g.int rel⟩
theorem op_powD : OpR X (binaryOp .Pow) (r2 X.K (binD .Pow)) := by
  intro pins s σ H x y v u Q I rx ry h
  obtain ⟨m, st, a, b, z, rel, ra, rb, e, g⟩ := h
  cases a <;> cases b <;> simp only [binD] at e <;> (try cases e)
  split at e <;> cases e
  rename_i hb
  simp only [RepR, RepD] at ra rb
  subst ra rb
  exact op_pow pins s σ H _ _ v u Q I rx ry ⟨_, _, rfl, rfl, hb, g.int rel⟩
theorem binD_nolist {op : Operator} (h : op ≠ .Add) {x y z : D} (e : binD op x y = some z) : ∀ ds, z ≠ .lst ds := by
  intro ds hz
  subst hz
  cases op <;> (try exact h rfl) <;> cases x <;> cases y <;> simp only [binD] at e <;> (try cases e) <;> (split at e <;> cases e)
theorem GivF.weak {K : PySem.W.Frag} {m : Mp} {H : Hp} {st : Sto} {z : D} {Q : VK} (h : ∀ ds, z ≠ .lst ds) (g : GivF K m H st z Q) : Giv K m H st z Q := by
  cases z with
  | lst ds => exact absurd rfl (h ds)
  | _ => exact g
theorem op_noF {f : Value → Value → Sem Value} {op : Operator} (h : op ≠ .Add) (o : OpR X f (r2 X.K (binD op))) : OpR X f (r2F X.K (binD op)) := by
  intro pins s σ H x y v u Q I rx ry q
  obtain ⟨m, st, a, b, z, rel, ra, rb, e, g⟩ := q
  exact o pins s σ H x y v u Q I rx ry ⟨m, st, a, b, z, rel, ra, rb, e, g.weak (binD_nolist h e)⟩
theorem op_binF (op : Operator) : OpR X (binaryOp op) (r2F X.K (binD op)) := by
  cases op
  case Add => exact op_addF
  case Sub => exact op_noF (by decide) op_subD
  case Mult => exact op_noF (by decide) op_mulD
  case FloorDiv => exact op_noF (by decide) op_fdivD
  case Mod => exact op_noF (by decide) op_modD
  case Pow => exact op_noF (by decide) op_powD
  all_goals
    intro pins s σ H x y v u Q I rx ry h
    obtain ⟨m, st, a, b, z, rel, ra, rb, e, g⟩ := h
    simp only [binD] at e
    cases e
/-! ### comparisons -/
def cmpO (op : CmpOp) (a b : D) : Option D := match cmpD op a b with | some k => some (.bl k) | none => none
theorem cmpO_some {op : CmpOp} {a b : D} {z : D} (h : cmpO op a b = some z) : ∃ k, cmpD op a b = some k ∧ z = .bl k := by
  unfold cmpO at h
  split at h <;> cases h
  exact ⟨_, by assumption, rfl⟩
theorem op_eqDD (hu : X.A.units + 64 < cLine) : OpR X (compareOp .Eq) (r2 X.K (cmpO .Eq)) := by
  intro pins s σ H x y v u Q I rx ry h
  obtain ⟨m, st, a, b, z, rel, ra, rb, e, g⟩ := h
  obtain ⟨k, e', rfl⟩ := cmpO_some e
  clear e
  rename _ = some k => e
  simp only [cmpD, eqO] at e
  split at e <;> cases e
  rename_i hd
  obtain ⟨d, e', h1, h2, h3, h4, h5⟩ := eq_dp ra.d rb.d hd.1 hd.2
  exact op_eqD hu pins s σ H _ _ v u Q I rx ry ⟨d, e', h1, h2, h3, h4, by rw [h5]; exact g.bl rel⟩
theorem op_neDD (hu : X.A.units + 64 < cLine) : OpR X (compareOp .NotEq) (r2 X.K (cmpO .NotEq)) := by
  intro pins s σ H x y v u Q I rx ry h
  obtain ⟨m, st, a, b, z, rel, ra, rb, e, g⟩ := h
  obtain ⟨k, e', rfl⟩ := cmpO_some e
  clear e
  rename _ = some k => e
  simp only [cmpD, eqO] at e
  split at e
  · simp only [notO, Option.some.injEq] at e
    subst e
    rename_i hd
    obtain ⟨d, e', h1, h2, h3, h4, h5⟩ := eq_dp ra.d rb.d hd.1 hd.2
    exact op_neD hu pins s σ H _ _ v u Q I rx ry ⟨d, e', h1, h2, h3, h4, by rw [h5]; exact g.bl rel⟩
  · cases e
theorem op_ltD : OpR X (compareOp .Lt) (r2 X.K (cmpO .Lt)) := by
  intro pins s σ H x y v u Q I rx ry h
  obtain ⟨m, st, a, b, z, rel, ra, rb, e, g⟩ := h
  obtain ⟨k, e', rfl⟩ := cmpO_some e
  clear e
  rename _ = some k => e
  simp only [cmpD] at e
  cases a <;> cases b <;> simp only [ltO, leO, gtO, geO] at e <;> cases e
  · simp only [RepR, RepD] at ra rb
    subst ra rb
    exact op_lt pins s σ H _ _ v u Q I rx ry ⟨_, _, rfl, rfl, g.bl rel⟩
  · simp only [RepR, RepD] at ra rb
    obtain ⟨rfl, l1, o1⟩ := ra
    obtain ⟨rfl, l2, o2⟩ := rb
    exact op_lt_str pins s σ H _ _ v u Q I rx ry ⟨_, _, rfl, rfl, g.bl rel⟩
theorem op_leD : OpR X (compareOp .LtE) (r2 X.K (cmpO .LtE)) := by
  intro pins s σ H x y v u Q I rx ry h
  obtain ⟨m, st, a, b, z, rel, ra, rb, e, g⟩ := h
  obtain ⟨k, e', rfl⟩ := cmpO_some e
  clear e
  rename _ = some k => e
  simp only [cmpD] at e
  cases a <;> cases b <;> simp only [ltO, leO, gtO, geO] at e <;> cases e
  simp only [RepR, RepD] at ra rb
  subst ra rb
  exact op_le pins s σ H _ _ v u Q I rx ry ⟨_, _, rfl, rfl, g.bl rel⟩
theorem op_gtD : OpR X (compareOp .Gt) (r2 X.K (cmpO .Gt)) := by
  intro pins s σ H x y v u Q I rx ry h
  obtain ⟨m, st, a, b, z, rel, ra, rb, e, g⟩ := h
  obtain ⟨k, e', rfl⟩ := cmpO_some e
  clear e
  rename _ = some k => e
  simp only [cmpD] at e
  cases a <;> cases b <;> simp only [ltO, leO, gtO, geO] at e <;> cases e
  simp only [RepR, RepD] at ra rb
  subst ra rb
  exact op_gt pins s σ H _ _ v u Q I rx ry ⟨_, _, rfl, rfl, g.bl rel⟩
theorem op_geD : OpR X (compareOp .GtE) (r2 X.K (cmpO .GtE)) := by
  intro pins s σ H x y v u Q I rx ry h
  obtain ⟨m, st, a, b, z, rel, ra, rb, e, g⟩ := h
  obtain ⟨k, e', rfl⟩ := cmpO_some e
  clear e
  rename _ = some k => e
  simp only [cmpD] at e
  cases a <;> cases b <;> simp only [ltO, leO, gtO, geO] at e <;> cases e
  simp only [RepR, RepD] at ra rb
  subst ra rb
  exact op_ge pins s σ H _ _ v u Q I rx ry ⟨_, _, rfl, rfl, g.bl rel⟩
theorem noneD_of {K : PySem.W.Frag} {H : Hp} {d : D} {v : V} (h : RepD K H d v) : decide (v = .non) = noneD d := by
  cases d <;> simp only [RepD] at h
  · subst h; rfl
  · subst h; rfl
  · subst h; rfl
  · obtain ⟨rfl, _⟩ := h; rfl
  · obtain ⟨_, _, rfl, _⟩ := h; rfl
  · obtain ⟨_, _, rfl, _⟩ := h; rfl
  · obtain ⟨_, _, rfl, _⟩ := h; rfl
theorem op_isD : OpR X (compareOp .Is) (r2 X.K (cmpO .Is)) := by
  intro pins s σ H x y v u Q I rx ry h
  obtain ⟨m, st, a, b, z, rel, ra, rb, e, g⟩ := h
  obtain ⟨k, e', rfl⟩ := cmpO_some e
  clear e
  rename _ = some k => e
  simp only [cmpD] at e
  cases b <;> simp only [isO] at e <;> cases e
  simp only [RepR, RepD] at rb
  subst rb
  exact op_isN pins s σ H _ _ v u Q I rx ry ⟨rfl, by rw [noneD_of ra.d]; exact g.bl rel⟩
theorem op_isnotD : OpR X (compareOp .IsNot) (r2 X.K (cmpO .IsNot)) := by
  intro pins s σ H x y v u Q I rx ry h
  obtain ⟨m, st, a, b, z, rel, ra, rb, e, g⟩ := h
  obtain ⟨k, e', rfl⟩ := cmpO_some e
  clear e
  rename _ = some k => e
  simp only [cmpD] at e
  cases b <;> simp only [isO, notO] at e <;> cases e
  simp only [RepR, RepD] at rb
  subst rb
  exact op_notN pins s σ H _ _ v u Q I rx ry ⟨rfl, by rw [noneD_of ra.d]; exact g.bl rel⟩
theorem flat_of {K : PySem.W.Frag} {H : Hp} {d : D} {v : V} (h : RepD K H d v) (f : flatD d = true) : flatV v = true := by
  cases d <;> simp only [flatD] at f <;> (try cases f) <;> simp only [RepD] at h
  · subst h; rfl
  · subst h; rfl
  · subst h; rfl
  · obtain ⟨rfl, _⟩ := h; rfl
theorem eqV_of {K : PySem.W.Frag} {H : Hp} {d e : D} {v w : V} (h : RepD K H d v) (f : flatD d = true) (h2 : RepD K H e w) (f2 : flatD e = true) : eqV v w = eqD d e := by
  cases d <;> simp only [flatD] at f <;> (try cases f) <;> cases e <;> simp only [flatD] at f2 <;> (try cases f2) <;> simp only [RepD] at h h2 <;> (try (have h := h.1)) <;> (try (have h2 := h2.1)) <;> subst h h2 <;> simp [eqV, eqD]
theorem flats_of {K : PySem.W.Frag} {H : Hp} : ∀ {ds : List D} {vs : List V}, RepDs K H ds vs → ds.all flatD = true → vs.all flatV = true
  | [], _, h, _ => by simp only [RepDs] at h; subst h; rfl
  | d :: ds, _, h, f => by
    obtain ⟨v, r, rfl, p, q⟩ := h.uncons
    simp only [List.all_cons, Bool.and_eq_true] at f ⊢
    exact ⟨flat_of p f.1, flats_of q f.2⟩
theorem inV_of {K : PySem.W.Frag} {H : Hp} {x : D} {w : V} (hx : RepD K H x w) (fx : flatD x = true) : ∀ {ds : List D} {vs : List V}, RepDs K H ds vs → ds.all flatD = true → inV w vs = inD x ds
  | [], _, h, _ => by simp only [RepDs] at h; subst h; rfl
  | d :: ds, _, h, f => by
    obtain ⟨v, r, rfl, p, q⟩ := h.uncons
    simp only [List.all_cons, Bool.and_eq_true] at f
    have := inV_of hx fx q f.2
    unfold inV inD at this ⊢
    simp only [List.any_cons, this, eqV_of p f.1 hx fx]
theorem strIn_one {a : Str} {c : Nat} (h : a.cps.toList = [c]) : a = ⟨#[c]⟩ := by
  cases a with
  | mk cps =>
    simp only at h
    congr 1
    exact Array.toList_inj.mp h
theorem keyOf_rep {K : PySem.W.Frag} {m : Mp} {H : Hp} {d : D} {v : V} {k : Key} (h : RepR K m H d v) (e : keyOf d = some k) : v = kV k := by
  cases d <;> simp only [keyOf] at e <;> cases e
  · simp only [RepR, RepD] at h; exact h
  · simp only [RepR, RepD] at h; exact h.1
theorem zip_in {ks : List Key} {vs : List V} (h : ks.length = vs.length) (k : Key) : (valV (ks.zip vs) k).isSome = ks.any fun j => decide (j = k) := by
  induction ks generalizing vs with
  | nil => simp [valV]
  | cons j ks ih =>
    cases vs with
    | nil => cases h
    | cons v vs =>
      rw [List.zip_cons_cons]
      by_cases e : j = k
      · subst e; rw [valV_pos rfl]; simp
      · rw [valV_neg e, ih (by simpa using h), List.any_cons, decide_eq_false e, Bool.false_or]
theorem zip_get {K : PySem.W.Frag} {H : Hp} : ∀ {ks : List Key} {xs : List D} {vs : List V} {k : Key} {d : D}, RepDs K H xs vs → dget ks xs k = some d → ∃ v, valV (ks.zip vs) k = some v ∧ RepD K H d v
  | [], xs, vs, k, d, _, e => by cases xs <;> simp [dget] at e
  | j :: ks, [], vs, k, d, _, e => by simp [dget] at e
  | j :: ks, x :: xs, vs, k, d, r, e => by
    obtain ⟨v, w, rfl, rv, rw'⟩ := r.uncons
    rw [List.zip_cons_cons]
    unfold dget at e
    split at e
    · rename_i h
      cases e
      exact ⟨v, valV_pos h, rv⟩
    · rename_i h
      obtain ⟨u, h1, h2⟩ := zip_get rw' e
      exact ⟨u, by rw [valV_neg h]; exact h1, h2⟩
theorem op_inD (hu : X.A.units + 64 < cLine) : OpR X (compareOp .In) (r2 X.K (cmpO .In)) := by
  intro pins s σ H x y v u Q I rx ry h
  obtain ⟨m, st, a, b, z, rel, ra, rb, e, g⟩ := h
  obtain ⟨k, e', rfl⟩ := cmpO_some e
  clear e
  rename _ = some k => e
  simp only [cmpD] at e
  have seq : ∀ xs, (RepD X.K H (.lst xs) y ∨ RepD X.K H (.tup xs) y) → (flatD a && xs.all flatD) = true → k = (inD a xs) →
      wpAny (model X.prog X.w) X.A (compareOp .In v u) (EP X pins σ Q) X.xe s := fun xs hq hf e => by
    subst e
    rw [Bool.and_eq_true] at hf
    simp only [RepD] at hq
    have hq2 : ∃ p vs, y = .ref p ∧ (SqL X.K H p vs ∨ SqT X.K H p vs) ∧ RepDs X.K H xs vs := by
      rcases hq with ⟨p, vs, h1, q1, _, q2⟩ | ⟨p, vs, h1, q1, _, q2⟩
      · exact ⟨p, vs, h1, .inl q1, q2⟩
      · exact ⟨p, vs, h1, .inr q1, q2⟩
    obtain ⟨p, vs, rfl, q1, q2⟩ := hq2
    refine op_in_seq pins s σ H _ _ v u Q I rx ry ⟨p, vs, rfl, q1, flat_of ra.d hf.1, flats_of q2 hf.2, ?_⟩
    rw [inV_of ra.d hf.1 q2 hf.2]
    exact g.bl rel
  cases b with
  | lst xs =>
    simp only [inO, notO] at e
    split at e
    · rename_i hf
      cases e
      exact seq xs (.inl rb.d) hf rfl
    · cases e
  | tup xs =>
    simp only [inO, notO] at e
    split at e
    · rename_i hf
      cases e
      exact seq xs (.inr rb.d) hf rfl
    · cases e
  | str t =>
    cases a <;> simp only [inO, notO] at e <;> cases e
    simp only [RepR, RepD] at ra rb
    obtain ⟨rfl, _⟩ := ra
    obtain ⟨rfl, _⟩ := rb
    have g1 := g.bl rel
    unfold strIn at g1
    split at g1
    · rename_i c hc
      rw [strIn_one hc] at rx
      exact op_in_sign pins s σ H _ _ v u Q I rx ry ⟨c, _, rfl, rfl, g1⟩
    · exact op_in_str pins s σ H _ _ v u Q I rx ry ⟨_, _, rfl, rfl, g1⟩
  | dct ks xs =>
    simp only [inO, notO] at e
    split at e
    · rename_i k' hk
      cases e
      simp only [RepR, RepD] at rb
      obtain ⟨p, vs, rfl, q1, q2, q3⟩ := rb
      have := keyOf_rep ra hk
      subst this
      cases ry
      refine d_in (by omega) I (DGet.k (k := k') (hm_same _ _ q1)) rx fun s' I' => ⟨.bl _, H, I', rfl, ?_⟩
      rw [zip_in q2]
      exact g.bl rel
    · cases e
  | _ => simp only [inO, notO] at e <;> cases e
theorem op_notinD (hu : X.A.units + 64 < cLine) : OpR X (compareOp .NotIn) (r2 X.K (cmpO .NotIn)) := by
  intro pins s σ H x y v u Q I rx ry h
  obtain ⟨m, st, a, b, z, rel, ra, rb, e, g⟩ := h
  obtain ⟨k, e', rfl⟩ := cmpO_some e
  clear e
  rename _ = some k => e
  simp only [cmpD] at e
  have seq : ∀ xs, (RepD X.K H (.lst xs) y ∨ RepD X.K H (.tup xs) y) → (flatD a && xs.all flatD) = true → k = (!inD a xs) →
      wpAny (model X.prog X.w) X.A (compareOp .NotIn v u) (EP X pins σ Q) X.xe s := fun xs hq hf e => by
    subst e
    rw [Bool.and_eq_true] at hf
    simp only [RepD] at hq
    have hq2 : ∃ p vs, y = .ref p ∧ (SqL X.K H p vs ∨ SqT X.K H p vs) ∧ RepDs X.K H xs vs := by
      rcases hq with ⟨p, vs, h1, q1, _, q2⟩ | ⟨p, vs, h1, q1, _, q2⟩
      · exact ⟨p, vs, h1, .inl q1, q2⟩
      · exact ⟨p, vs, h1, .inr q1, q2⟩
    obtain ⟨p, vs, rfl, q1, q2⟩ := hq2
    refine op_notIn_seq pins s σ H _ _ v u Q I rx ry ⟨p, vs, rfl, q1, flat_of ra.d hf.1, flats_of q2 hf.2, ?_⟩
    rw [inV_of ra.d hf.1 q2 hf.2]
    exact g.bl rel
  cases b with
  | lst xs =>
    simp only [inO, notO] at e
    split at e
    · rename_i hf
      split at hf <;> cases hf
      cases e; rename_i hf; exact seq xs (.inl rb.d) hf rfl
    · cases e
  | tup xs =>
    simp only [inO, notO] at e
    split at e
    · rename_i hf
      split at hf <;> cases hf
      cases e; rename_i hf; exact seq xs (.inr rb.d) hf rfl
    · cases e
  | str t =>
    cases a <;> simp only [inO, notO] at e <;> cases e
    simp only [RepR, RepD] at ra rb
    obtain ⟨rfl, _⟩ := ra
    obtain ⟨rfl, _⟩ := rb
    have g1 := g.bl rel
    unfold strIn at g1
    split at g1
    · rename_i c hc
      rw [strIn_one hc] at rx
      exact op_notIn_sign pins s σ H _ _ v u Q I rx ry ⟨c, _, rfl, rfl, g1⟩
    · exact op_notin_str pins s σ H _ _ v u Q I rx ry ⟨_, _, rfl, rfl, g1⟩
  | dct ks xs =>
    simp only [inO, notO] at e
    split at e
    · rename_i b' hb
      split at hb
      · rename_i k' hk
        cases hb
        cases e
        simp only [RepR, RepD] at rb
        obtain ⟨p, vs, rfl, q1, q2, q3⟩ := rb
        have := keyOf_rep ra hk
        subst this
        cases ry
        refine d_notIn (by omega) I (DGet.k (k := k') (hm_same _ _ q1)) rx fun s' I' => ⟨.bl _, H, I', rfl, ?_⟩
        rw [zip_in q2]
        exact g.bl rel
      · cases hb
    · cases e
  | _ => simp only [inO, notO] at e <;> cases e
theorem op_cmpD (hu : X.A.units + 64 < cLine) (op : CmpOp) : OpR X (compareOp op) (r2 X.K (cmpO op)) := by
  cases op
  case Eq => exact op_eqDD hu
  case NotEq => exact op_neDD hu
  case Lt => exact op_ltD
  case LtE => exact op_leD
  case Gt => exact op_gtD
  case GtE => exact op_geD
  case Is => exact op_isD
  case IsNot => exact op_isnotD
  case In => exact op_inD hu
  case NotIn => exact op_notinD hu
end TW
namespace TW
open PySem PySem.Spec PyProof.Rows L2
variable {X : Cx} {g : Gx} {a b c e : Expr} {pos : Pos} {fa fb fc : En → Sto → R Vv}

theorem bind_assoc {α β γ : Type} (r : R α) (f : α → Sto → R β) (k : β → Sto → R γ) : (r.bind f).bind k = r.bind fun x st => (f x st).bind k := by
  cases r <;> rfl
theorem bind_ok {α β : Type} (x : α) (st : Sto) (f : α → Sto → R β) : (R.ok x st).bind f = f x st := id rfl
theorem out_give {m : Mp} {H : Hp} {σ : L2.St} {Q : VK} {o : Option D} {st : Sto} (h : Out g m H σ (RepV g.K) Q (give o st)) : ∃ z, o = some z ∧ Giv g.K m H st z Q := by
  cases o with
  | none => exact h.elim
  | some z => exact ⟨z, rfl, fun m' H' v e r q => h m' H' v e r q⟩
theorem out_op2 {m : Mp} {H : Hp} {σ : L2.St} {Q : VK} {f : D → D → Option D} {x y : Vv} {st : Sto} {v w : V} (rel : Rel g.K m st H) (rx : RepV g.K m H x v) (ry : RepV g.K m H y w) (h : Out g m H σ (RepV g.K) Q (op2 f x y st)) : r2 g.K f v w H Q := by
  unfold op2 at h
  split at h
  · rename_i h1 h2
    obtain ⟨z, e, q⟩ := out_give h
    exact ⟨m, st, _, _, z, rel, der_rep rel h1 rx, der_rep rel h2 ry, e, q⟩
  · exact h.elim
/-- two expressions, then an operation -/
theorem two_op {f : D → D → Option D} : ∀ σ H Q, LE g (fun en st => (fa en st).bind fun x st => (fb en st).bind fun y st => op2 f x y st) σ H Q → tOp (r2 g.K f) (LE g fa) (LE g fb) σ H Q := by
  rintro σ H Q ⟨m, en, st, rel, re, out⟩
  refine ⟨m, en, st, rel, re, Out.bind out fun x st1 m1 H1 v e1 x1 l1 rx o1 => ?_⟩
  refine ⟨m1, en, st1, l1, re.ext x1, Out.bind o1 fun y st2 m2 H2 w e2 x2 l2 ry o2 => ?_⟩
  exact out_op2 l2 (rx.ext x2) ry o2
/-- an expression whose list, where it gives one, is new -/
def OutF (g : Gx) (m : Mp) (H : Hp) (σ : L2.St) (Q : VK) : R Vv → Prop
  | .ok (.d (.lst ds)) st => ∀ m' H' vs p, Ext m H m' H' → Rel g.K m' st H' → RepDs g.K (hm m' H') ds vs → ds.length ≤ sizeLine → H' p = none → Q (.ref p) (upd H' p (.lst vs))
  | r => Out g m H σ (RepV g.K) Q r
def LF (g : Gx) (f : En → Sto → R Vv) : TE := fun σ H Q => ∃ m en st, Rel g.K m st H ∧ RepE g.K m H en σ ∧ OutF g m H σ Q (f en st)
theorem OutF.ext {m m1 : Mp} {H H1 : Hp} {σ : L2.St} {Q : VK} {r : R Vv} (e : Ext m H m1 H1) (h : OutF g m H σ Q r) : OutF g m1 H1 σ Q r := by
  cases r with
  | ok x st =>
    cases x with
    | ref n => exact Out.ext (g := g) (σ := σ) (rep := RepV g.K) (Q := Q) (r := .ok (.ref n) st) e h
    | d z => cases z with
      | lst ds => exact fun m' H' vs p q => h m' H' vs p (e.trans q)
      | _ => exact fun m' H' v q => h m' H' v (e.trans q)
  | exc x st => exact fun m' H' c d q => h m' H' c d (e.trans q)
  | stuck => exact h
theorem OutF.bind {m : Mp} {H : Hp} {σ : L2.St} {α β : Type} {rep : Mp → Hp → α → β → Prop} {Q : VK} {r : R α} {f : α → Sto → R Vv} {P : β → Hp → Prop} (h : OutF g m H σ Q (r.bind f))
    (k : ∀ x st m' H' v, r = .ok x st → Ext m H m' H' → Rel g.K m' st H' → rep m' H' x v → OutF g m' H' σ Q (f x st) → P v H') : Out g m H σ rep P r := by
  cases r with
  | ok x st => exact fun m' H' v e l q => k x st m' H' v rfl e l q (OutF.ext e h)
  | exc x st => exact h
  | stuck => exact h
theorem lf_of_le {f : En → Sto → R Vv} : ∀ σ H Q, LE g f σ H Q → LF g f σ H Q := by
  rintro σ H Q ⟨m, en, st, rel, re, out⟩
  refine ⟨m, en, st, rel, re, ?_⟩
  cases hf : f en st with
  | ok x st1 =>
    rw [hf] at out
    cases x with
    | ref n => exact out
    | d z => cases z with
      | lst ds => exact fun m' H' vs p e l r hl n => Giv.lst (K := g.K) (fun m2 H2 v e2 r2 q2 => out m2 H2 v (e.trans e2) r2 q2) l r hl n
      | _ => exact out
  | exc x st1 => rw [hf] at out; exact out
  | stuck => rw [hf] at out; exact out
theorem le_of_lf {f : En → Sto → R Vv} (h : PE X e (LF g f)) : PE X e (LE g f) := pe_weak h lf_of_le
theorem lf_of_ln {f : En → Sto → R Vv} : ∀ σ H Q, LE g (fun en st => (f en st).bind newV) σ H Q → LF g f σ H Q := by
  rintro σ H Q ⟨m, en, st, rel, re, out⟩
  refine ⟨m, en, st, rel, re, ?_⟩
  dsimp only at out
  cases hf : f en st with
  | ok x st1 =>
    rw [hf, bind_ok] at out
    cases x with
    | ref n => exact out.elim
    | d z => cases z with
      | lst ds =>
        intro m' H' vs p e l r hl n
        obtain ⟨r1, e1⟩ := Rel.new (ob := .lst ds) l n ⟨vs, rfl, r, hl⟩
        refine out _ _ _ (e.trans e1) r1 ⟨p, ?_, rfl⟩
        rw [← l.len, List.getElem?_append_right (Nat.le_refl _)]
        simp
      | _ => exact out.elim
  | exc x st1 => rw [hf] at out; exact out
  | stuck => rw [hf] at out; exact out
theorem ln_of_lf {f : En → Sto → R Vv} (h : PE X e (LF g f)) : PE X e (LE g fun en st => (f en st).bind newV) := pe_weak h lf_of_ln
theorem out_op2F {m : Mp} {H : Hp} {σ : L2.St} {Q : VK} {f : D → D → Option D} {x y : Vv} {st : Sto} {v w : V} (rel : Rel g.K m st H) (rx : RepV g.K m H x v) (ry : RepV g.K m H y w) (h : OutF g m H σ Q (op2 f x y st)) : r2F g.K f v w H Q := by
  unfold op2 at h
  split at h
  · rename_i h1 h2
    unfold give at h
    split at h
    · rename_i z hz
      refine ⟨m, st, _, _, z, rel, der_rep rel h1 rx, der_rep rel h2 ry, hz, ?_⟩
      cases z with
      | lst ds => exact h
      | _ => exact h
    · exact h.elim
  · exact h.elim
theorem lf_bin (hK : g.K = X.K) {op : Operator} (ha : PE X a (LE g fa)) (hb : PE X b (LE g fb)) : PE X (.BinOp a op b pos) (LF g fun en st => (fa en st).bind fun x st => (fb en st).bind fun y st => op2 (binD op) x y st) := by
  refine pe_weak (pe_op (op_binF op) ha hb) ?_
  rintro σ H Q ⟨m, en, st, rel, re, out⟩
  refine ⟨m, en, st, rel, re, OutF.bind out fun x st1 m1 H1 v e1 x1 l1 rx o1 => ?_⟩
  refine ⟨m1, en, st1, l1, re.ext x1, OutF.bind o1 fun y st2 m2 H2 w e2 x2 l2 ry o2 => ?_⟩
  rw [← hK]
  exact out_op2F l2 (rx.ext x2) ry o2
theorem le_cmp (hK : g.K = X.K) (hu : X.A.units + 64 < cLine) {op : CmpOp} (ha : PE X a (LE g fa)) (hb : PE X b (LE g fb)) (hm : behindInMarks op b = false) : PE X (.Compare a [op] [b] pos) (LE g fun en st => (fa en st).bind fun x st => (fb en st).bind fun y st => cmpV op x y st) :=
  pe_weak (pe_cmpR (op_cmpD hu op) ha hb hm) (by rw [← hK]; exact two_op)
/-- a test of what an expression gives -/
def tt (f : En → Sto → R Vv) : En → Sto → R Bool := fun en st => (f en st).bind truV
theorem emp {α β : Type} {xs : List α} {ys : List β} (h : xs.length = ys.length) : (!xs.isEmpty) = !ys.isEmpty := by
  cases xs with
  | nil => cases ys with
    | nil => rfl
    | cons _ _ => cases h
  | cons _ _ => cases ys with
    | nil => cases h
    | cons _ _ => rfl
theorem tru_rep {K : PySem.W.Frag} {m : Mp} {H : Hp} {d : D} {v : V} {k : Bool} (h : RepR K m H d v) (e : truD d = some k) : TruV K v H k := by
  cases d <;> simp only [truD] at e <;> cases e
  · simp only [RepR, RepD] at h; subst h; rfl
  · simp only [RepR, RepD] at h; subst h; rfl
  · simp only [RepR, RepD] at h; subst h; rfl
  · simp only [RepR, RepD] at h; obtain ⟨rfl, l, _⟩ := h; exact ⟨l, rfl⟩
  · simp only [RepR, RepD] at h
    obtain ⟨a, vs, rfl, q, _, z⟩ := h
    refine .inr (.inl ⟨vs, same_tup hm_same q, ?_⟩)
    exact emp z.length
  · obtain ⟨a, vs, rfl, q, _, z⟩ := h
    refine .inl ⟨vs, q, ?_⟩
    exact emp z.length
  · simp only [RepR, RepD] at h
    obtain ⟨a, vs, rfl, q, l, z⟩ := h
    refine .inr (.inr ⟨_, hm_same _ _ q, ?_⟩)
    rename_i ks xs
    cases ks with
    | nil => rfl
    | cons k ks =>
      cases vs with
      | nil => cases l
      | cons v vs => rfl
theorem out_tru {m : Mp} {H : Hp} {σ : L2.St} {Q : Bool → Hp → Prop} {x : Vv} {st : Sto} {v : V} (rel : Rel g.K m st H) (rx : RepV g.K m H x v) (h : Out g m H σ (fun _ _ (a b : Bool) => a = b) Q (truV x st)) : ∃ k, TruV g.K v H k ∧ truV x st = .ok k st ∧ Q k H := by
  unfold truV at h ⊢
  split at h
  · rename_i d h1
    split at h
    · rename_i k h2
      exact ⟨k, tru_rep (der_rep rel h1 rx) h2, rfl, h m H k .refl rel rfl⟩
    · exact h.elim
  · exact h.elim
/-- a plain test -/
theorem lt_plain (hK : g.K = X.K) (ha : PE X a (LE g fa)) (he : ∀ whole, isTrue a X.env whole = (do let v ← whole; standAt a.pos; holding [v] (truthy v))) : PT X a (LT g (tt fa)) := by
  refine pt_weak (pt_truth ha he) ?_
  rintro σ H Q ⟨m, en, st, rel, re, out⟩
  refine ⟨m, en, st, rel, re, Out.bind out fun x st1 m1 H1 v e1 x1 l1 rx o1 => ?_⟩
  obtain ⟨k, h1, _, h3⟩ := out_tru l1 rx o1
  rw [hK] at h1
  exact ⟨k, h1, h3⟩
theorem lt_cmp (hK : g.K = X.K) (hu : X.A.units + 64 < cLine) {op : CmpOp} (ha : PE X a (LE g fa)) (hb : PE X b (LE g fb)) (hm : behindInMarks op b = false) : PT X (.Compare a [op] [b] pos) (LT g (tt fun en st => (fa en st).bind fun x st => (fb en st).bind fun y st => cmpV op x y st)) := by
  refine pt_weak (pt_cmpR (op_cmpD hu op) ha hb hm) ?_
  rintro σ H Q ⟨m, en, st, rel, re, out⟩
  unfold tt at out
  simp only [bind_assoc] at out
  refine ⟨m, en, st, rel, re, Out.bind out fun x st1 m1 H1 v e1 x1 l1 rx o1 => ?_⟩
  refine ⟨m1, en, st1, l1, re.ext x1, Out.bind o1 fun y st2 m2 H2 w e2 x2 l2 ry o2 => ?_⟩
  unfold cmpV op2 at o2
  split at o2
  · rename_i h1 h2
    unfold give at o2
    split at o2
    · rename_i z hz
      rw [← hK]
      refine ⟨m2, st2, _, _, z, l2, der_rep l2 h1 (rx.ext x2), der_rep l2 h2 ry, hz, fun m3 H3 u x3 l3 ru => ?_⟩
      obtain ⟨k, _, rfl⟩ := cmpO_some hz
      simp only [RepD] at ru
      exact ⟨k, ru, o2 m3 H3 k x3 l3 rfl⟩
    · exact o2.elim
  · exact o2.elim
theorem lt_not (ha : PT X a (LT g (tt fa))) : PT X (.UnaryOp .Not a pos) (LT g (tt fun en st => (fa en st).bind fun x st => (truV x st).bind fun k st => .ok (.d (.bl (!k))) st)) := by
  refine pt_weak (pt_not ha) ?_
  rintro σ H Q ⟨m, en, st, rel, re, out⟩
  unfold tt at out
  simp only [bind_assoc] at out
  unfold tNot
  refine ⟨m, en, st, rel, re, ?_⟩
  unfold tt
  rw [show ((fa en st).bind fun x st => (truV x st).bind fun k st => (R.ok (Vv.d (D.bl !k)) st).bind truV) = ((fa en st).bind truV).bind fun k st => R.ok (!k) st by rw [bind_assoc]; rfl] at out
  refine Out.bind out fun k st1 m1 H1 v e1 x1 l1 rk o1 => ?_
  subst rk
  exact o1 m1 H1 (!k) .refl l1 rfl
theorem tru_cases {K : PySem.W.Frag} {m : Mp} {H : Hp} {x : Vv} {st : Sto} {v : V} (rel : Rel K m st H) (rx : RepV K m H x v) : (∃ k, truV x st = .ok k st ∧ TruV K v H k) ∨ truV x st = .stuck := by
  unfold truV
  cases h1 : der st x with
  | none => exact .inr rfl
  | some d =>
    cases h2 : truD d with
    | none => exact .inr (by simp only [h2])
    | some k => exact .inl ⟨k, by simp only [h2], tru_rep (der_rep rel h1 rx) h2⟩
theorem le_not (hK : g.K = X.K) (ha : PE X a (LE g fa)) : PE X (.UnaryOp .Not a pos) (LE g fun en st => (fa en st).bind fun x st => (truV x st).bind fun k st => .ok (.d (.bl (!k))) st) := by
  refine pe_weak (pe_notT ha) ?_
  rintro σ H Q ⟨m, en, st, rel, re, out⟩
  refine ⟨m, en, st, rel, re, Out.bind out fun x st1 m1 H1 v e1 x1 l1 rx o1 => ?_⟩
  rcases tru_cases l1 rx with ⟨k, h1, h2⟩ | h1
  · rw [h1] at o1
    rw [hK] at h2
    exact ⟨k, h2, o1 m1 H1 _ .refl l1 (by simp only [RepV, RepD])⟩
  · rw [h1] at o1
    exact o1.elim
/-! ### and, or: from the right -/
theorem le_one {op : BoolOp} (ha : PE X a (LE g fa)) : PE X (.BoolOp op [a] pos) (LE g fa) := pe_one ha
theorem le_and {rest : List Expr} (hK : g.K = X.K) (ha : PE X a (LE g fa)) (hb : PE X (.BoolOp .And (b :: rest) pos) (LE g fb)) : PE X (.BoolOp .And (a :: b :: rest) pos) (LE g fun en st => (fa en st).bind fun x st => (truV x st).bind fun k st => if k then fb en st else .ok x st) := by
  refine pe_weak (pe_andT ha hb) ?_
  rintro σ H Q ⟨m, en, st, rel, re, out⟩
  refine ⟨m, en, st, rel, re, Out.bind out fun x st1 m1 H1 v e1 x1 l1 rx o1 => ?_⟩
  rcases tru_cases l1 rx with ⟨k, h1, h2⟩ | h1
  · rw [h1, bind_ok] at o1
    rw [hK] at h2
    refine ⟨k, h2, ?_⟩
    cases k with
    | true => exact ⟨m1, en, st1, l1, re.ext x1, o1⟩
    | false => exact o1 m1 H1 v .refl l1 rx
  · rw [h1] at o1
    exact o1.elim
theorem le_or {rest : List Expr} (hK : g.K = X.K) (ha : PE X a (LE g fa)) (hb : PE X (.BoolOp .Or (b :: rest) pos) (LE g fb)) : PE X (.BoolOp .Or (a :: b :: rest) pos) (LE g fun en st => (fa en st).bind fun x st => (truV x st).bind fun k st => if k then .ok x st else fb en st) := by
  refine pe_weak (pe_orT ha hb) ?_
  rintro σ H Q ⟨m, en, st, rel, re, out⟩
  refine ⟨m, en, st, rel, re, Out.bind out fun x st1 m1 H1 v e1 x1 l1 rx o1 => ?_⟩
  rcases tru_cases l1 rx with ⟨k, h1, h2⟩ | h1
  · rw [h1, bind_ok] at o1
    rw [hK] at h2
    refine ⟨k, h2, ?_⟩
    cases k with
    | true => exact o1 m1 H1 v .refl l1 rx
    | false => exact ⟨m1, en, st1, l1, re.ext x1, o1⟩
  · rw [h1] at o1
    exact o1.elim
theorem tru_ext {x : Vv} {st st' : Sto} {k : Bool} (h : truV x st = .ok k st') : st' = st := by
  unfold truV at h
  split at h
  · split at h <;> cases h
    rfl
  · cases h
theorem lw_one {op : BoolOp} (ha : PT X a (LT g (tt fa))) : PW X (.BoolOp op [a] pos) (LT g (tt fa)) := by
  cases op
  · exact pw_and1 ha
  · exact pw_or1 ha
theorem pw_weak {X : Cx} {e : Expr} {t t' : TT} (h : PW X e t) (k : ∀ σ H Q, t' σ H Q → t σ H Q) : PW X e t' := ⟨fun wh pins s σ H Q I q => h.run wh pins s σ H Q I (k σ H Q q)⟩
theorem lw_and {rest : List Expr} (ha : PT X a (LT g (tt fa))) (hb : PW X (.BoolOp .And (b :: rest) pos) (LT g (tt fb))) : PW X (.BoolOp .And (a :: b :: rest) pos) (LT g (tt fun en st => (fa en st).bind fun x st => (truV x st).bind fun k st => if k then fb en st else .ok x st)) := by
  refine pw_weak (pw_and ha hb) ?_
  rintro σ H Q ⟨m, en, st, rel, re, out⟩
  refine ⟨m, en, st, rel, re, ?_⟩
  unfold tt at out ⊢
  simp only [bind_assoc] at out
  have e : ((fa en st).bind fun x st => (truV x st).bind fun k st => (if k = true then fb en st else R.ok x st).bind truV) = ((fa en st).bind truV).bind fun k st => if k = true then (fb en st).bind truV else .ok false st := by
    rw [bind_assoc]
    cases fa en st with
    | ok x st1 =>
      simp only [bind_ok]
      cases h : truV x st1 with
      | ok k st2 =>
        simp only [bind_ok]
        cases k with
        | true => rfl
        | false =>
          simp only [Bool.false_eq_true, if_false, bind_ok]
          obtain rfl := tru_ext h
          exact h
      | exc _ _ => rfl
      | stuck => rfl
    | exc _ _ => rfl
    | stuck => rfl
  rw [e] at out
  refine Out.bind out fun k st1 m1 H1 v e1 x1 l1 rk o1 => ?_
  subst rk
  cases k with
  | true => exact ⟨m1, en, st1, l1, re.ext x1, o1⟩
  | false => exact o1 m1 H1 false .refl l1 rfl
theorem lw_or {rest : List Expr} (ha : PT X a (LT g (tt fa))) (hb : PW X (.BoolOp .Or (b :: rest) pos) (LT g (tt fb))) : PW X (.BoolOp .Or (a :: b :: rest) pos) (LT g (tt fun en st => (fa en st).bind fun x st => (truV x st).bind fun k st => if k then .ok x st else fb en st)) := by
  refine pw_weak (pw_or ha hb) ?_
  rintro σ H Q ⟨m, en, st, rel, re, out⟩
  refine ⟨m, en, st, rel, re, ?_⟩
  unfold tt at out ⊢
  simp only [bind_assoc] at out
  have e : ((fa en st).bind fun x st => (truV x st).bind fun k st => (if k = true then R.ok x st else fb en st).bind truV) = ((fa en st).bind truV).bind fun k st => if k = true then .ok true st else (fb en st).bind truV := by
    rw [bind_assoc]
    cases fa en st with
    | ok x st1 =>
      simp only [bind_ok]
      cases h : truV x st1 with
      | ok k st2 =>
        simp only [bind_ok]
        cases k with
        | false => rfl
        | true =>
          simp only [if_true, bind_ok]
          obtain rfl := tru_ext h
          exact h
      | exc _ _ => rfl
      | stuck => rfl
    | exc _ _ => rfl
    | stuck => rfl
  rw [e] at out
  refine Out.bind out fun k st1 m1 H1 v e1 x1 l1 rk o1 => ?_
  subst rk
  cases k with
  | false => exact ⟨m1, en, st1, l1, re.ext x1, o1⟩
  | true => exact o1 m1 H1 true .refl l1 rfl
theorem le_ite (hc : PT X c (LT g (tt fc))) (ha : PE X a (LE g fa)) (hb : PE X b (LE g fb)) : PE X (.IfExp c a b pos) (LE g fun en st => (fc en st).bind fun x st => (truV x st).bind fun k st => if k then fa en st else fb en st) := by
  refine pe_weak (pe_ifExp hc ha hb) ?_
  rintro σ H Q ⟨m, en, st, rel, re, out⟩
  refine ⟨m, en, st, rel, re, ?_⟩
  simp only [← bind_assoc] at out
  have out : Out g m H σ (RepV g.K) Q ((tt fc en st).bind fun k st => if k = true then fa en st else fb en st) := out
  refine Out.bind out fun k st1 m1 H1 v e1 x1 l1 rk o1 => ?_
  subst rk
  cases k with
  | true => exact ⟨m1, en, st1, l1, re.ext x1, o1⟩
  | false => exact ⟨m1, en, st1, l1, re.ext x1, o1⟩
/-! ### names, constants -/
theorem le_var {i : Nat} {x : Str} (hN : X.N[i]? = some x) (hv : Vis X.env.scope x) (hd : (x == ("__debug__" : Str)) = false) (hcd : (x == ("__classdict__" : Str)) = false) : PE X (.Name x pos) (LE g fun en st => match en[i]? with | some (some v) => .ok v st | _ => .stuck) := by
  refine pe_weak (pe_var hN hv hd hcd) ?_
  rintro σ H Q ⟨m, en, st, rel, re, out⟩
  dsimp only at out
  split at out
  · rename_i v h
    obtain ⟨w, e, r⟩ := re.2 i v h
    exact ⟨w, e, out m H w .refl rel r⟩
  · exact out.elim
theorem le_con {d : D} {v : V} (h : PE X e (tC v)) (r : ∀ H, RepD g.K H d v) : PE X e (LE g fun _ st => .ok (.d d) st) := by
  refine pe_weak h ?_
  rintro σ H Q ⟨m, en, st, rel, re, out⟩
  exact out m H v .refl rel (r _)
theorem le_neg (ha : PE X a (LE g fa)) : PE X (.UnaryOp .USub a pos) (LE g fun en st => (fa en st).bind fun x st => match x with | .d (.int i) => .ok (.d (.int (-i))) st | _ => .stuck) := by
  refine pe_weak (pe_un un_neg ha) ?_
  rintro σ H Q ⟨m, en, st, rel, re, out⟩
  refine ⟨m, en, st, rel, re, Out.bind out fun x st1 m1 H1 v e1 x1 l1 rx o1 => ?_⟩
  split at o1
  · rename_i i
    simp only [RepV, RepD] at rx
    exact ⟨i, rx, o1 m1 H1 _ .refl l1 (by simp only [RepV, RepD])⟩
  · exact o1.elim
/-! ### arguments, displays -/
theorem la_nil : PA X [] (LA g fun _ st => .ok [] st) := by
  refine pa_weak pa_nil ?_
  rintro σ H Q ⟨m, en, st, rel, re, out⟩
  exact out m H [] .refl rel .nil
theorem la_cons {es : List Expr} {fr : En → Sto → R (List Vv)} (ha : PE X a (LE g fa)) (hr : PA X es (LA g fr)) (hs : starEach (a :: es) X.env = (false, eval a X.env) :: starEach es X.env) : PA X (a :: es) (LA g fun en st => (fa en st).bind fun x st => (fr en st).bind fun xs st => .ok (x :: xs) st) := by
  refine pa_weak (pa_cons ha hr hs) ?_
  rintro σ H Q ⟨m, en, st, rel, re, out⟩
  refine ⟨m, en, st, rel, re, Out.bind out fun x st1 m1 H1 v e1 x1 l1 rx o1 => ?_⟩
  refine ⟨m1, en, st1, l1, re.ext x1, Out.bind o1 fun y st2 m2 H2 w e2 x2 l2 ry o2 => ?_⟩
  exact o2 m2 H2 (v :: w) .refl l2 (.cons (rx.ext x2) ry)
theorem pures_rep {K : PySem.W.Frag} {m : Mp} {H : Hp} : ∀ {xs : List Vv} {vs : List V} {ds : List D}, pures xs = some ds → RepVs K m H xs vs → RepDs K (hm m H) ds vs
  | [], _, _, e, .nil => by simp only [pures, Option.some.injEq] at e; subst e; exact .nil
  | .d x :: xs, _, _, e, .cons h t => by
    simp only [pures] at e
    split at e <;> cases e
    exact .cons h (pures_rep (by assumption) t)
  | .ref _ :: xs, _, _, e, _ => by simp only [pures] at e; cases e
theorem le_tup {es : List Expr} {k : Nat} {fr : En → Sto → R (List Vv)} (hr : PA X es (LA g fr)) : PE X (.Tuple es k pos) (LE g fun en st => (fr en st).bind fun vs st => match pures vs with | some xs => if xs.length ≤ sizeLine then .ok (.d (.tup xs)) st else .stuck | none => .stuck) := by
  refine pe_weak (pe_tup hr) ?_
  rintro σ H Q ⟨m, en, st, rel, re, out⟩
  refine ⟨m, en, st, rel, re, Out.bind out fun x st1 m1 H1 v e1 x1 l1 rx o1 => ?_⟩
  split at o1
  · rename_i ds hd
    split at o1
    · rename_i hl
      have r := pures_rep hd rx
      refine ⟨by rw [← r.length]; exact hl, fun p n => ?_⟩
      exact Giv.tup (K := g.K) (fun m' H' v e r q => o1 m' H' v e r q) l1 r hl n
    · exact o1.elim
  · exact o1.elim
theorem lf_lst {es : List Expr} {fr : En → Sto → R (List Vv)} (hr : PA X es (LA g fr)) : PE X (.List es pos) (LF g fun en st => (fr en st).bind fun vs st => match pures vs with | some xs => if xs.length ≤ sizeLine then .ok (.d (.lst xs)) st else .stuck | none => .stuck) := by
  refine pe_weak (pe_lst hr) ?_
  rintro σ H Q ⟨m, en, st, rel, re, out⟩
  refine ⟨m, en, st, rel, re, OutF.bind out fun x st1 m1 H1 v e1 x1 l1 rx o1 => ?_⟩
  split at o1
  · rename_i ds hd
    split at o1
    · rename_i hl
      have r := pures_rep hd rx
      exact ⟨by rw [← r.length]; exact hl, fun p n => o1 m1 H1 v p .refl l1 r hl n⟩
    · exact o1.elim
  · exact o1.elim
end TW
namespace TW
open PySem PySem.Spec PyProof.Rows L2
variable {X : Cx} {g : Gx} {a b c e : Expr} {pos : Pos} {fa fb fc : En → Sto → R Vv}

theorem cmpV_ok {op : CmpOp} {x y : Vv} {st : Sto} : (∃ a b k, der st x = some a ∧ der st y = some b ∧ cmpD op a b = some k ∧ cmpV op x y st = .ok (.d (.bl k)) st) ∨ cmpV op x y st = .stuck := by
  unfold cmpV op2
  cases h1 : der st x with
  | none => exact .inr rfl
  | some a =>
    cases h2 : der st y with
    | none => exact .inr rfl
    | some b =>
      cases h3 : cmpD op a b with
      | none => exact .inr (by simp only [h3, give])
      | some k => exact .inl ⟨a, b, k, rfl, rfl, h3, by simp only [h3, give]⟩
theorem cmp_r2 {op : CmpOp} {K : PySem.W.Frag} {m : Mp} {H : Hp} {st : Sto} {x y : Vv} {v w : V} {a b : D} {k : Bool} {Q : VK} (rel : Rel K m st H) (rx : RepV K m H x v) (ry : RepV K m H y w) (h1 : der st x = some a) (h2 : der st y = some b) (h3 : cmpD op a b = some k)
    (q : Giv K m H st (.bl k) Q) : r2 K (cmpO op) v w H Q := ⟨m, st, a, b, .bl k, rel, der_rep rel h1 rx, der_rep rel h2 ry, by unfold cmpO; rw [h3], q⟩
def chn (p q : CmpOp) (fa fb fc : En → Sto → R Vv) : En → Sto → R Vv := fun en st => (fa en st).bind fun x st => (fb en st).bind fun y st => (cmpV p x y st).bind fun k st =>
      match k with
      | .d (.bl true) => (fc en st).bind fun z st => cmpV q y z st
      | .d (.bl false) => .ok (.d (.bl false)) st
      | _ => .stuck
theorem le_chain (hK : g.K = X.K) (hu : X.A.units + 64 < cLine) {p q : CmpOp} (ha : PE X a (LE g fa)) (hb : PE X b (LE g fb)) (hc : PE X c (LE g fc)) (hm : lastMarks [p, q] [b, c] = false) : PE X (.Compare a [p, q] [b, c] pos) (LE g (chn p q fa fb fc)) := by
  refine pe_weak (pe_chain (op_cmpD hu p) (op_cmpD hu q) ha hb hc hm) ?_
  rintro σ H Q ⟨m, en, st, rel, re, out⟩
  refine ⟨m, en, st, rel, re, Out.bind out fun x st1 m1 H1 v e1 x1 l1 rx o1 => ?_⟩
  refine ⟨m1, en, st1, l1, re.ext x1, Out.bind o1 fun y st2 m2 H2 w e2 x2 l2 ry o2 => ?_⟩
  rw [← hK]
  rcases cmpV_ok (op := p) (x := x) (y := y) (st := st2) with ⟨a', b', k, d1, d2, d3, d4⟩ | d4
  · rw [d4, bind_ok] at o2
    refine cmp_r2 l2 (rx.ext x2) ry d1 d2 d3 fun m3 H3 u x3 l3 ru => ?_
    simp only [RepD] at ru
    refine ⟨k, ru, ?_⟩
    cases k with
    | false => exact o2 m3 H3 _ x3 l3 (by simp only [RepV, RepD])
    | true =>
      refine ⟨m3, en, st2, l3, ((re.ext x1).ext x2).ext x3, Out.bind (Out.ext x3 o2) fun z st4 m4 H4 w4 e4 x4 l4 rz o4 => ?_⟩
      exact out_op2 l4 ((ry.ext x3).ext x4) rz o4
  · rw [d4] at o2; exact o2.elim
theorem lt_chain (hK : g.K = X.K) (hu : X.A.units + 64 < cLine) {p q : CmpOp} (ha : PE X a (LE g fa)) (hb : PE X b (LE g fb)) (hc : PE X c (LE g fc)) (hm : lastMarks [p, q] [b, c] = false) : PT X (.Compare a [p, q] [b, c] pos) (LT g (tt (chn p q fa fb fc))) := by
  refine pt_weak (pt_chain (op_cmpD hu p) (op_cmpD hu q) ha hb hc hm) ?_
  rintro σ H Q ⟨m, en, st, rel, re, out⟩
  unfold tt chn at out
  simp only [bind_assoc] at out
  refine ⟨m, en, st, rel, re, Out.bind out fun x st1 m1 H1 v e1 x1 l1 rx o1 => ?_⟩
  refine ⟨m1, en, st1, l1, re.ext x1, Out.bind o1 fun y st2 m2 H2 w e2 x2 l2 ry o2 => ?_⟩
  rw [← hK]
  rcases cmpV_ok (op := p) (x := x) (y := y) (st := st2) with ⟨a', b', k, d1, d2, d3, d4⟩ | d4
  · rw [d4, bind_ok] at o2
    refine cmp_r2 l2 (rx.ext x2) ry d1 d2 d3 fun m3 H3 u x3 l3 ru => ?_
    simp only [RepD] at ru
    refine ⟨k, ru, ?_⟩
    cases k with
    | false => exact ⟨false, rfl, o2 m3 H3 _ x3 l3 rfl⟩
    | true =>
      simp only [bind_assoc] at o2
      refine ⟨m3, en, st2, l3, ((re.ext x1).ext x2).ext x3, Out.bind (Out.ext x3 o2) fun z st4 m4 H4 w4 e4 x4 l4 rz o4 => ?_⟩
      rcases cmpV_ok (op := q) (x := y) (y := z) (st := st4) with ⟨a5, b5, k5, d5, d6, d7, d8⟩ | d8
      · rw [d8, bind_ok] at o4
        refine cmp_r2 l4 ((ry.ext x3).ext x4) rz d5 d6 d7 fun m5 H5 u5 x5 l5 ru5 => ?_
        simp only [RepD] at ru5
        exact ⟨k5, ru5, o4 m5 H5 _ x5 l5 rfl⟩
      · rw [d8] at o4; exact o4.elim
  · rw [d4] at o2; exact o2.elim

/-! ### built-in calls, by data -/
def rn (K : PySem.W.Frag) (f : List D → Option D) : List V → Hp → VK → Prop := fun vs H Q => ∃ m st xs z, Rel K m st H ∧ Paired (RepR K m H) xs vs ∧ f xs = some z ∧ Giv K m H st z Q
theorem out_opn {m : Mp} {H : Hp} {σ : L2.St} {Q : VK} {f : List D → Option D} {xs : List Vv} {st : Sto} {vs : List V} (rel : Rel g.K m st H) (rx : RepVs g.K m H xs vs) (h : Out g m H σ (RepV g.K) Q (opn f xs st)) : rn g.K f vs H Q := by
  unfold opn at h
  split at h
  · rename_i h1
    obtain ⟨z, e, q⟩ := out_give h
    exact ⟨m, st, _, z, rel, ders_rep rel h1 rx, e, q⟩
  · exact h.elim
theorem p1 {α β : Type} {F : α → β → Prop} {x : α} {vs : List β} (h : Paired F [x] vs) : ∃ v, vs = [v] ∧ F x v := by
  cases h with | cons p q => cases q; exact ⟨_, rfl, p⟩
theorem p2 {α β : Type} {F : α → β → Prop} {x y : α} {vs : List β} (h : Paired F [x, y] vs) : ∃ v w, vs = [v, w] ∧ F x v ∧ F y w := by
  cases h with | cons p q => cases q with | cons p' q' => cases q'; exact ⟨_, _, rfl, p, p'⟩
theorem rep_str {K : PySem.W.Frag} {m : Mp} {H : Hp} {s : Str} {v : V} (h : RepR K m H (.str s) v) : v = .str s ∧ s.length ≤ sizeLine ∧ PyData.strOk s = true := by simpa only [RepR, RepD] using h
theorem rep_int {K : PySem.W.Frag} {m : Mp} {H : Hp} {i : Int} {v : V} (h : RepR K m H (.int i) v) : v = .int i := by simpa only [RepR, RepD] using h
theorem rep_tup {K : PySem.W.Frag} {m : Mp} {H : Hp} {xs : List D} {v : V} (h : RepR K m H (.tup xs) v) : ∃ a vs, v = .ref a ∧ SqT K (hm m H) a vs ∧ xs.length ≤ sizeLine ∧ RepDs K (hm m H) xs vs := by simpa only [RepR, RepD] using h
theorem rep_lst {K : PySem.W.Frag} {m : Mp} {H : Hp} {xs : List D} {v : V} (h : RepR K m H (.lst xs) v) : ∃ a vs, v = .ref a ∧ SqL K H a vs ∧ xs.length ≤ sizeLine ∧ RepDs K (hm m H) xs vs := h
theorem cr_len : CallR X (.builtin "len") (rn X.K lenD) := by
  intro pins s σ H vs us Q I r h
  obtain ⟨m, st, xs, z, rel, rs, e, q⟩ := h
  unfold lenD at e
  split at e <;> cases e
  · obtain ⟨v, rfl, rv⟩ := p1 rs
    obtain ⟨rfl, l, _⟩ := rep_str rv
    exact call_len pins s σ H _ us Q I r ⟨_, _, rfl, ⟨l, rfl⟩, q.int rel⟩
  · obtain ⟨v, rfl, rv⟩ := p1 rs
    obtain ⟨p, ws, rfl, h1, l, h2⟩ := rep_lst rv
    exact call_len pins s σ H _ us Q I r ⟨_, _, rfl, .inl ⟨ws, h1, rfl⟩, by rw [← h2.length]; exact q.int rel⟩
  · obtain ⟨v, rfl, rv⟩ := p1 rs
    obtain ⟨p, ws, rfl, h1, l, h2⟩ := rep_tup rv
    exact call_len pins s σ H _ us Q I r ⟨_, _, rfl, .inr ⟨ws, same_tup hm_same h1, rfl⟩, by rw [← h2.length]; exact q.int rel⟩
theorem cr_absD : CallR X (.builtin "abs") (rn X.K absD) := by
  intro pins s σ H vs us Q I r h
  obtain ⟨m, st, xs, z, rel, rs, e, q⟩ := h
  unfold absD at e
  split at e <;> cases e
  obtain ⟨v, rfl, rv⟩ := p1 rs
  rw [rep_int rv] at r
  exact call_abs pins s σ H _ us Q I r ⟨_, rfl, q.int rel⟩
theorem cr_maxD (hc : X.calm = true) : CallR X (.builtin "max") (rn X.K maxD) := by
  intro pins s σ H vs us Q I r h
  obtain ⟨m, st, xs, z, rel, rs, e, q⟩ := h
  unfold maxD at e
  split at e <;> cases e
  obtain ⟨v, w, rfl, rv, rw'⟩ := p2 rs
  rw [rep_int rv, rep_int rw'] at r
  exact call_max2 hc pins s σ H _ us Q I r ⟨_, _, rfl, q.int rel⟩
theorem cr_minD (hc : X.calm = true) : CallR X (.builtin "min") (rn X.K minD) := by
  intro pins s σ H vs us Q I r h
  obtain ⟨m, st, xs, z, rel, rs, e, q⟩ := h
  unfold minD at e
  split at e <;> cases e
  obtain ⟨v, w, rfl, rv, rw'⟩ := p2 rs
  rw [rep_int rv, rep_int rw'] at r
  exact call_min2 hc pins s σ H _ us Q I r ⟨_, _, rfl, q.int rel⟩
theorem cr_dmD : CallR X (.builtin "divmod") (rn X.K dmD) := by
  intro pins s σ H vs us Q I r h
  obtain ⟨m, st, xs, z, rel, rs, e, q⟩ := h
  unfold dmD at e
  split at e
  · split at e <;> cases e
    rename_i hj
    obtain ⟨v, w, rfl, rv, rw'⟩ := p2 rs
    rw [rep_int rv, rep_int rw'] at r
    exact call_divmodW pins s σ H _ us Q I r ⟨_, _, rfl, ⟨hj.1, noPylong_neg hj.2⟩, fun p n => q.tup rel (.cons (by simp only [RepD]) (.cons (by simp only [RepD]) .nil)) (by simp [sizeLine_eq]) n⟩
  · cases e
theorem bools_rep {K : PySem.W.Frag} {H : Hp} : ∀ {xs : List D} {vs : List V} {bs : List Bool}, bools xs = some bs → RepDs K H xs vs → vs = bs.map V.bl
  | [], _, _, e, h => by simp only [bools, Option.some.injEq] at e; subst e; simp only [RepDs] at h; exact h
  | .bl b :: xs, _, _, e, h => by
    obtain ⟨v, r, rfl, p, q⟩ := h.uncons
    simp only [bools] at e
    split at e <;> cases e
    simp only [RepD] at p
    rw [p, bools_rep (by assumption) q]
    rfl
  | .non :: xs, _, _, e, h => by simp only [bools] at e; cases e
  | .int _ :: xs, _, _, e, h => by simp only [bools] at e; cases e
  | .str _ :: xs, _, _, e, h => by simp only [bools] at e; cases e
  | .tup _ :: xs, _, _, e, h => by simp only [bools] at e; cases e
  | .lst _ :: xs, _, _, e, h => by simp only [bools] at e; cases e
  | .dct _ _ :: xs, _, _, e, h => by simp only [bools] at e; cases e
theorem cr_allD (hc : X.calm = true) : CallR X (.builtin "all") (rn X.K allD) := by
  intro pins s σ H vs us Q I r h
  obtain ⟨m, st, xs, z, rel, rs, e, q⟩ := h
  unfold allD at e
  split at e
  · split at e <;> cases e
    rename_i hb
    obtain ⟨v, rfl, rv⟩ := p1 rs
    obtain ⟨p, ws, rfl, h1, l, h2⟩ := rep_lst rv
    rw [bools_rep hb h2] at h1
    exact cr_all hc pins s σ H _ us Q I r ⟨p, _, rfl, h1, q.bl rel⟩
  · cases e
theorem cr_anyD (hc : X.calm = true) : CallR X (.builtin "any") (rn X.K anyD) := by
  intro pins s σ H vs us Q I r h
  obtain ⟨m, st, xs, z, rel, rs, e, q⟩ := h
  unfold anyD at e
  split at e
  · split at e <;> cases e
    rename_i hb
    obtain ⟨v, rfl, rv⟩ := p1 rs
    obtain ⟨p, ws, rfl, h1, l, h2⟩ := rep_lst rv
    rw [bools_rep hb h2] at h1
    exact cr_any hc pins s σ H _ us Q I r ⟨p, _, rfl, h1, q.bl rel⟩
  · cases e
theorem ty_rep {K : PySem.W.Frag} {m : Mp} {H : Hp} {d : D} {v : V} (h : RepR K m H d v) : TyX K H v (.type (tyD d)) := by
  cases d with
  | non => simp only [RepR, RepD] at h; subst h; exact .base .non
  | bl b => simp only [RepR, RepD] at h; subst h; exact .base (.bl _)
  | int i => simp only [RepR, RepD] at h; subst h; exact .base (.int _)
  | str s => obtain ⟨rfl, _⟩ := rep_str h; exact .base (.str _)
  | tup xs =>
    obtain ⟨a, vs, rfl, q, _⟩ := rep_tup h
    rcases same_tup hm_same q with q | ⟨o, _, _, hk, hc, _⟩
    · rcases q with q | ⟨o, q⟩
      · exact .base (.tup q)
      · exact .fTuple q
    · exact .kTuple hk hc
  | lst xs =>
    obtain ⟨a, vs, rfl, q, _⟩ := rep_lst h
    rcases q with q | ⟨o, _, _, hk, hc, _⟩
    · rcases q with q | ⟨o, q⟩
      · exact .base (.lst q)
      · exact .base (.frz q)
    · exact .kList hk hc
  | dct ks xs =>
    simp only [RepR, RepD] at h
    obtain ⟨a, vs, rfl, q, _⟩ := h
    exact .base (.dK (hm_same _ _ q))
def tyOk (t : String) : Bool := ["int", "str", "bool", "tuple", "list", "dict"].contains t
theorem kit_all : (["NoneType", "bool", "int", "str", "tuple", "list", "dict"].all fun n => ["int", "str", "bool", "tuple", "list", "dict"].all fun t => kitB n t == some (isiN n t)) = true := by decide +kernel
theorem tyD_mem (d : D) : tyD d ∈ ["NoneType", "bool", "int", "str", "tuple", "list", "dict"] := by
  cases d <;> simp [tyD]
theorem isi_kit {d : D} {t : String} (h : tyOk t = true) : kitB (tyD d) t = some (isiN (tyD d) t) := by
  have h3 := List.all_eq_true.mp kit_all _ (tyD_mem d)
  have h4 := List.all_eq_true.mp h3 t (by simpa [tyOk] using h)
  simpa using h4
theorem le_isi (hK : g.K = X.K) {x : Str} {t : String} {p q : Pos} (hg : Gl X "isinstance") (hm : X.mg "isinstance" = none) (ha : PE X a (LE g fa)) (hs : starEach [a, .Name x q] X.env = (false, eval a X.env) :: starEach [.Name x q] X.env)
    (hs2 : (backTo pos (starEach [.Name x q] X.env)).any (·.1) = false) (hs3 : starEach [.Name x q] X.env = (false, eval (.Name x q) X.env) :: starEach [] X.env)
    (ht : PE X (.Name x q) (tC (.ty t))) (ok : tyOk t = true) : PE X (.Call (.Name "isinstance" p) [a, .Name x q] [] pos) (LE g fun en st => (fa en st).bind fun x st => op1 (fun d => some (isiD t d)) x st) := by
  refine pe_weak (pe_callB call_isi hg hm (by decide +kernel) (pa_cons ha (pa_cons ht pa_nil hs3) hs) (by decide) (by decide) hs hs2) ?_
  rintro σ H Q ⟨m, en, st, rel, re, out⟩
  refine ⟨m, en, st, rel, re, Out.bind out fun y st1 m1 H1 v e1 x1 l1 rx o1 => ?_⟩
  unfold op1 at o1
  split at o1
  · rename_i d hd
    refine ⟨v, .ty t, _, _, _, rfl, .ty _, hK ▸ ty_rep (der_rep l1 hd rx), kit_ty (isi_kit (d := d) ok), ?_⟩
    exact o1 m1 H1 _ .refl l1 (by simp only [isiD, RepV, RepD])
  · exact o1.elim
theorem cr_tupD : CallR X (.type "tuple") (rn X.K tupD) := by
  intro pins s σ H vs us Q I r h
  obtain ⟨m, st, xs, z, rel, rs, e, q⟩ := h
  unfold tupD at e
  split at e <;> cases e
  · obtain ⟨v, rfl, rv⟩ := p1 rs
    obtain ⟨p, ws, rfl, h1, l, h2⟩ := rep_lst rv
    exact call_tuple_of pins s σ H _ us Q I r ⟨p, ws, rfl, .inl ⟨h1, fun p n => q.tup rel h2 l n⟩⟩
  · obtain ⟨v, rfl, rv⟩ := p1 rs
    obtain ⟨p, ws, rfl, h1, l, h2⟩ := rep_tup rv
    exact call_tuple_of pins s σ H _ us Q I r ⟨p, ws, rfl, .inr ⟨same_tup hm_same h1, q.now rel (by simp only [RepD]; exact ⟨p, ws, rfl, h1, l, h2⟩)⟩⟩
/-- list(..) is new -/
def rnF (K : PySem.W.Frag) (f : List D → Option D) : List V → Hp → VK → Prop := fun vs H Q => ∃ m st xs z, Rel K m st H ∧ Paired (RepR K m H) xs vs ∧ f xs = some z ∧ GivF K m H st z Q
theorem cr_lstF : CallR X (.type "list") (rnF X.K lstD) := by
  intro pins s σ H vs us Q I r h
  obtain ⟨m, st, xs, z, rel, rs, e, q⟩ := h
  unfold lstD at e
  split at e <;> cases e
  · obtain ⟨v, rfl, rv⟩ := p1 rs
    obtain ⟨p, ws, rfl, h1, l, h2⟩ := rep_lst rv
    exact call_list_of pins s σ H _ us Q I r ⟨p, ws, rfl, .inl h1, fun p n => q m H _ p .refl rel h2 l n⟩
  · obtain ⟨v, rfl, rv⟩ := p1 rs
    obtain ⟨p, ws, rfl, h1, l, h2⟩ := rep_tup rv
    exact call_list_of pins s σ H _ us Q I r ⟨p, ws, rfl, .inr (same_tup hm_same h1), fun p n => q m H _ p .refl rel h2 l n⟩
/-- a built-in's name, its kind -/
theorem cr_intD {X : Cx} : CallR X (.type "int") (rn X.K intD) := by
  intro pins s σ H vs us Q I r h
  obtain ⟨m, st, xs, z, rel, rs, e, q⟩ := h
  unfold intD at e
  split at e <;> cases e
  · obtain ⟨v, rfl, rv⟩ := p1 rs
    have := rep_int rv
    subst this
    exact call_int1 pins s σ H _ us Q I r (.inl ⟨_, rfl, q.int rel⟩)
  · obtain ⟨v, rfl, rv⟩ := p1 rs
    simp only [RepR, RepD] at rv
    subst rv
    exact call_int1 pins s σ H _ us Q I r (.inr ⟨_, rfl, q.int rel⟩)
def bfName : Bf → Str
  | .len => "len" | .abs => "abs" | .max2 => "max" | .min2 => "min" | .divmod => "divmod" | .all => "all" | .any => "any" | .tupleOf => "tuple" | .listOf => "list" | .intOf => "int"
def rnG (K : PySem.W.Frag) (f : Bf) : List V → Hp → VK → Prop := fun vs H Q => ∃ m st xs z, Rel K m st H ∧ Paired (RepR K m H) xs vs ∧ bfD f xs = some z ∧ GivF K m H st z Q
theorem giv_of_f {K : PySem.W.Frag} {m : Mp} {H : Hp} {st : Sto} {z : D} {Q : VK} (n : ∀ ds, z ≠ .lst ds) (q : GivF K m H st z Q) : Giv K m H st z Q := q.weak n
end TW
namespace TW
open PySem PySem.Spec PyProof.Rows L2
variable {X : Cx} {g : Gx} {a b c e : Expr} {es : List Expr} {pos : Pos} {fa fb fc : En → Sto → R Vv} {fr : En → Sto → R (List Vv)}

def noStar : Expr → Bool
  | .Starred _ _ => false
  | _ => true
theorem star_cons (h : noStar e = true) (env : Env) : starEach (e :: es) env = (false, eval e env) :: starEach es env := by
  cases e <;> first | rfl | cases h
theorem star_any : ∀ {es : List Expr} (h : es.all noStar = true) (env : Env) (p : Pos), (backTo p (starEach es env)).any (·.1) = false
  | [], _, _, _ => rfl
  | e :: es, h, env, p => by
    simp only [List.all_cons, Bool.and_eq_true] at h
    rw [star_cons h.1]
    have := star_any h.2 env p
    unfold backTo at *
    simpa using this
theorem star_all {es : List Expr} (h : es.all noStar = true) (env : Env) (p : Pos) : (backTo p (starEach es env)).all (fun x => !x.1) = true := by
  have := star_any h env p
  rw [List.any_eq_false] at this
  rw [List.all_eq_true]
  intro x hx
  simpa using this x hx
theorem bfName_boot (f : Bf) : bootBuiltins (bfName f) = some (match f with | .tupleOf => .type "tuple" | .listOf => .type "list" | .intOf => .type "int" | .len => .builtin "len" | .abs => .builtin "abs" | .max2 => .builtin "max" | .min2 => .builtin "min" | .divmod => .builtin "divmod" | .all => .builtin "all" | .any => .builtin "any") := by
  cases f <;> decide +kernel
theorem bfName_plain (f : Bf) : bfName f ≠ "__name__" ∧ (bfName f == ("__debug__" : Str)) = false := by
  cases f <;> decide +kernel
theorem le_opn {r : List V → Hp → VK → Prop} {F : List D → Option D} {x : Str} {p : Pos} (h : PE X (.Call (.Name x p) es [] pos) (tCB r (LA g fr))) (hr : r = rn g.K F) : PE X (.Call (.Name x p) es [] pos) (LE g fun en st => (fr en st).bind fun vs st => opn F vs st) := by
  subst hr
  refine pe_weak h ?_
  rintro σ H Q ⟨m, en, st, rel, re, out⟩
  refine ⟨m, en, st, rel, re, Out.bind out fun x st1 m1 H1 v e1 x1 l1 rx o1 => ?_⟩
  exact out_opn l1 rx o1
theorem lf_opn {r : List V → Hp → VK → Prop} {F : List D → Option D} {x : Str} {p : Pos} (h : PE X (.Call (.Name x p) es [] pos) (tCB r (LA g fr))) (hr : r = rnF g.K F) : PE X (.Call (.Name x p) es [] pos) (LF g fun en st => (fr en st).bind fun vs st => opn F vs st) := by
  subst hr
  refine pe_weak h ?_
  rintro σ H Q ⟨m, en, st, rel, re, out⟩
  refine ⟨m, en, st, rel, re, OutF.bind out fun x st1 m1 H1 v e1 x1 l1 rx o1 => ?_⟩
  unfold opn at o1
  split at o1
  · rename_i h1
    unfold give at o1
    split at o1
    · rename_i z hz
      refine ⟨m1, st1, _, z, l1, ders_rep l1 h1 rx, hz, ?_⟩
      cases z with
      | lst ds => exact o1
      | _ => exact o1
    · exact o1.elim
  · exact o1.elim
theorem le_blt (hK : g.K = X.K) (hc : X.calm = true) (f : Bf) {p : Pos} (hg : Gl X (bfName f)) (hm : X.mg (bfName f) = none) (ha : PA X (e :: es) (LA g fr)) (hs : (e :: es).all noStar = true) :
    PE X (.Call (.Name (bfName f) p) (e :: es) [] pos) (LE g fun en st => (fr en st).bind fun vs st => opn (bfD f) vs st) := by
  have hb := bfName_boot f
  obtain ⟨n1, n2⟩ := bfName_plain f
  simp only [List.all_cons, Bool.and_eq_true] at hs
  have s1 := star_cons (es := es) hs.1 X.env
  have s2 := star_any hs.2 X.env pos
  cases f
  · exact le_opn (pe_callB cr_len hg hm hb ha n1 n2 s1 s2) (by rw [hK]; rfl)
  · exact le_opn (pe_callB cr_absD hg hm hb ha n1 n2 s1 s2) (by rw [hK]; rfl)
  · exact le_opn (pe_callB (cr_maxD hc) hg hm hb ha n1 n2 s1 s2) (by rw [hK]; rfl)
  · exact le_opn (pe_callB (cr_minD hc) hg hm hb ha n1 n2 s1 s2) (by rw [hK]; rfl)
  · exact le_opn (pe_callB cr_dmD hg hm hb ha n1 n2 s1 s2) (by rw [hK]; rfl)
  · exact le_opn (pe_callB (cr_allD hc) hg hm hb ha n1 n2 s1 s2) (by rw [hK]; rfl)
  · exact le_opn (pe_callB (cr_anyD hc) hg hm hb ha n1 n2 s1 s2) (by rw [hK]; rfl)
  · exact le_opn (pe_callTy cr_tupD hg hm hb ha n1 n2 s1 s2) (by rw [hK]; rfl)
  · exact le_of_lf (lf_opn (pe_callTy cr_lstF hg hm hb ha n1 n2 s1 s2) (by rw [hK]; rfl))
  · exact le_opn (pe_callTy cr_intD hg hm hb ha n1 n2 s1 s2) (by rw [hK]; rfl)
theorem lf_list (hK : g.K = X.K) {p : Pos} (hg : Gl X "list") (hm : X.mg "list" = none) (ha : PA X (e :: es) (LA g fr)) (hs : (e :: es).all noStar = true) :
    PE X (.Call (.Name "list" p) (e :: es) [] pos) (LF g fun en st => (fr en st).bind fun vs st => opn (bfD .listOf) vs st) := by
  simp only [List.all_cons, Bool.and_eq_true] at hs
  exact lf_opn (pe_callTy cr_lstF hg hm (bfName_boot .listOf) ha (bfName_plain .listOf).1 (bfName_plain .listOf).2 (star_cons hs.1 X.env) (star_any hs.2 X.env pos)) (by rw [hK]; rfl)
/-! ### methods of texts -/
theorem strs_rep {K : PySem.W.Frag} {H : Hp} : ∀ {xs : List D} {vs : List V} {bs : List Str}, strsD xs = some bs → RepDs K H xs vs → vs = bs.map V.str ∧ ∀ b ∈ bs, PyData.strOk b = true
  | [], _, _, e, h => by simp only [strsD, Option.some.injEq] at e; subst e; simp only [RepDs] at h; exact ⟨h, fun b z => nomatch z⟩
  | .str b :: xs, _, _, e, h => by
    obtain ⟨v, r, rfl, p, q⟩ := h.uncons
    simp only [strsD] at e
    split at e <;> cases e
    simp only [RepD] at p
    obtain ⟨h1, h2⟩ := strs_rep (by assumption) q
    refine ⟨by rw [p.1, h1]; rfl, fun c hc => ?_⟩
    rcases List.mem_cons.mp hc with rfl | hc
    · exact p.2.2
    · exact h2 c hc
  | .non :: xs, _, _, e, h => by simp only [strsD] at e; cases e
  | .int _ :: xs, _, _, e, h => by simp only [strsD] at e; cases e
  | .bl _ :: xs, _, _, e, h => by simp only [strsD] at e; cases e
  | .tup _ :: xs, _, _, e, h => by simp only [strsD] at e; cases e
  | .lst _ :: xs, _, _, e, h => by simp only [strsD] at e; cases e
  | .dct _ _ :: xs, _, _, e, h => by simp only [strsD] at e; cases e
theorem strOk_iff {s : Str} : PyData.strOk s = true ↔ ∀ c ∈ s.cps.toList, c < 0x110000 := by
  unfold PyData.strOk
  rw [Array.all_eq_true_iff_forall_mem]
  simp
theorem join_mem (a : Str) : ∀ (ys : List Str) (c : Nat), c ∈ (Txt.join a ys).cps.toList → c ∈ a.cps.toList ∨ ∃ y ∈ ys, c ∈ y.cps.toList := by
  intro ys c hc
  have e : (Txt.join a ys).cps.toList = TL.joinL a.cps.toList (ys.map fun y => y.cps.toList) := (by rw [TL.join_eq]; exact TL.tl_join a ys)
  rw [e] at hc
  clear e
  induction ys with
  | nil => simp [TL.joinL] at hc
  | cons y ys ih =>
    cases ys with
    | nil => simp only [List.map_cons, List.map_nil, TL.joinL] at hc; exact .inr ⟨y, List.mem_cons_self, hc⟩
    | cons z zs =>
      simp only [List.map_cons, TL.joinL, List.mem_append] at hc
      rcases hc with hc | hc | hc
      · exact .inr ⟨y, List.mem_cons_self, hc⟩
      · exact .inl hc
      · rcases ih hc with h | ⟨y', h1, h2⟩
        · exact .inl h
        · exact .inr ⟨y', List.mem_cons_of_mem _ h1, h2⟩
theorem joinL_len (S : List Nat) : ∀ ps : List (List Nat), (TL.joinL S ps).length ≤ (ps.map (·.length)).sum + ps.length * S.length
  | [] => by simp [TL.joinL]
  | [p] => by simp [TL.joinL]
  | p :: q :: r => by
    have := joinL_len S (q :: r)
    simp only [TL.joinL, List.length_append, List.map_cons, List.sum_cons, List.length_cons] at this ⊢
    have e : (r.length + 1 + 1) * S.length = (r.length + 1) * S.length + S.length := Nat.succ_mul _ _
    omega
theorem join_len (a : Str) (ys : List Str) : (Txt.join a ys).length ≤ (ys.map (·.length)).sum + ys.length * a.length := by
  have e : (Txt.join a ys).cps.toList = TL.joinL a.cps.toList (ys.map fun y => y.cps.toList) := by rw [TL.join_eq]; exact TL.tl_join a ys
  have h := joinL_len a.cps.toList (ys.map fun y => y.cps.toList)
  rw [← e] at h
  simp only [List.map_map, List.length_map, Array.length_toList] at h
  exact h
theorem join_ok {a : Str} {ys : List Str} (h1 : PyData.strOk a = true) (h2 : ∀ y ∈ ys, PyData.strOk y = true) : PyData.strOk (Txt.join a ys) = true := by
  rw [strOk_iff]
  intro c hc
  rcases join_mem a ys c hc with h | ⟨y, hy, h⟩
  · exact strOk_iff.mp h1 c h
  · exact strOk_iff.mp (h2 y hy) c h
def plainBase : Expr → Bool
  | .Call (.Name _ _) [] [] _ => false
  | _ => true
theorem base_ok {o : Expr} (h : plainBase o = true) (name : Str) (env : Env) : attributeBase o name env (eval o env) = eval o env := by
  unfold attributeBase
  split
  · cases h
  · rfl
def mth (m : Mf) (fo : En → Sto → R Vv) (fr : En → Sto → R (List Vv)) : En → Sto → R Vv := fun en st => (fo en st).bind fun x st => if recv m x st then (fr en st).bind fun vs st => doM m x vs st else .stuck
/-- what a method does, by its function -/
def rM (K : PySem.W.Frag) (f : Vv → List Vv → Sto → R Vv) : V → List V → Hp → VK → Prop := fun v vs H Q => ∃ m st x xs y st', Rel K m st H ∧ RepV K m H x v ∧ RepVs K m H xs vs ∧ f x xs st = .ok y st' ∧ ∀ m' H' w, Ext m H m' H' → Rel K m' st' H' → RepV K m' H' y w → Q w H'
/-- data in, data out -/
def rmD (K : PySem.W.Frag) (f : D → List D → Option D) : V → List V → Hp → VK → Prop := fun v vs H Q => ∃ m st x xs z, Rel K m st H ∧ RepR K m H x v ∧ Paired (RepR K m H) xs vs ∧ f x xs = some z ∧ Giv K m H st z Q
theorem rM_opm {K : PySem.W.Frag} {f : D → List D → Option D} {v : V} {vs : List V} {H : Hp} {Q : VK} (h : rM K (opm f) v vs H Q) : rmD K f v vs H Q := by
  obtain ⟨m, st, x, xs, y, st', rel, rx, rs, e, q⟩ := h
  unfold opm at e
  split at e
  · rename_i h1 h2
    unfold give at e
    split at e <;> cases e
    rename_i z hz
    exact ⟨m, st, _, _, z, rel, der_rep rel h1 rx, ders_rep rel h2 rs, hz, fun m' H' w x' l' r' => q m' H' w x' l' r'⟩
  · cases e
theorem mt_joinD : MtR X "str.join" (rmD X.K joinD) := by
  intro pins s σ H x xs v us Q I rx rs h
  obtain ⟨m, st, a, as, z, rel, ra, ras, e, q⟩ := h
  unfold joinD at e
  split at e
  · split at e
    · split at e <;> cases e
      rename_i hl
      obtain ⟨w, rfl, rw'⟩ := p1 ras
      obtain ⟨rfl, l1, o1⟩ := rep_str ra
      obtain ⟨p, ws, rfl, h1, l, h2⟩ := rep_lst rw'
      obtain ⟨k1, k2⟩ := strs_rep (by assumption) h2
      rw [k1] at h1
      exact mt_join pins s σ H _ _ v us Q I rx rs ⟨_, p, _, rfl, rfl, .inl h1, hl, q.str rel (by rw [sizeLine_eq]; exact Nat.le_trans (join_len _ _) hl) (join_ok o1 k2)⟩
    · cases e
  · cases e
theorem mt_upperD : MtR X "str.upper" (rmD X.K upperD) := by
  intro pins s σ H x xs v us Q I rx rs h
  obtain ⟨m, st, a, as, z, rel, ra, ras, e, q⟩ := h
  unfold upperD at e
  split at e
  · split at e <;> cases e
    rename_i hl
    obtain ⟨rfl, l1, o1⟩ := rep_str ra
    cases ras
    exact mt_upper pins s σ H _ _ v us Q I rx rs ⟨_, rfl, rfl, by omega, q.str rel hl.2.1 hl.2.2⟩
  · cases e
theorem mt_appD : MtR X "list.append" (rM X.K appV) := by
  intro pins s σ H x xs v us Q I rx rs h
  obtain ⟨m, st, a, as, y, st', rel, ra, ras, e, q⟩ := h
  unfold appV at e
  split at e
  · split at e
    · split at e <;> cases e
      rename_i n d _ ds hn hl
      obtain ⟨w, rfl, rw'⟩ := p1 ras
      obtain ⟨p, hp, rfl⟩ := ra
      obtain ⟨u, hu, vs, rfl, r1, l1⟩ := rel.get _ _ _ hn hp
      obtain ⟨r2, x2⟩ := rel.put (ob := .lst (ds ++ [d])) (o := .lst (vs ++ [w])) hp ⟨_, rfl, r1.append (.cons rw' .nil), by simp only [List.length_append, List.length_singleton]; omega⟩
      exact mt_append pins s σ H _ _ v us Q I rx rs ⟨p, vs, w, rfl, rfl, hu, by rw [← r1.length]; exact hl, q m _ _ x2 r2 (by simp only [RepV, RepD])⟩
    · cases e
  · cases e
def mfName : Mf → Str
  | .join => "join" | .upper => "upper" | .append => "append"
def mfTy : Mf → String
  | .join => "str" | .upper => "str" | .append => "list"
def mfId : Mf → String
  | .join => "str.join" | .upper => "str.upper" | .append => "list.append"
theorem mf_rule (m : Mf) : MtR X (mfId m) (rM X.K (doM m)) := by
  cases m
  · exact fun pins s σ H x xs v us Q I rx rs h => mt_joinD pins s σ H x xs v us Q I rx rs (rM_opm h)
  · exact fun pins s σ H x xs v us Q I rx rs h => mt_upperD pins s σ H x xs v us Q I rx rs (rM_opm h)
  · exact mt_appD
theorem mf_slot (m : Mf) : Slot (mfTy m) (mfName m) (mfId m) := by
  cases m
  · exact PySem.F.slot_str_join
  · exact PySem.F.slot_str_upper
  · exact PySem.F.slot_list_append
theorem mf_type (m : Mf) : typeOf (.builtin (mfId m)) = pure (.type "method_descriptor") := by
  cases m
  · exact PySem.F.type_str_join
  · exact PySem.F.type_str_upper
  · exact PySem.F.type_list_append
theorem mf_attrs (m : Mf) : PlainAttrs (mfTy m) := by
  cases m
  · exact PySem.F.plainAttrs_str
  · exact PySem.F.plainAttrs_str
  · exact PySem.F.plainAttrs_list
theorem txt_ty {K : PySem.W.Frag} {m : Mp} {H : Hp} {x : Vv} {v : V} (h : isTxt x = true) (r : RepV K m H x v) : tyV K "str" v H := by
  unfold isTxt at h
  split at h
  · simp only [RepV, RepD] at r
    rw [r.1]
    rfl
  · cases h
theorem lst_ty {K : PySem.W.Frag} {m : Mp} {H : Hp} {st : Sto} {x : Vv} {v : V} (rel : Rel K m st H) (h : isLst st x = true) (r : RepV K m H x v) : tyV K "list" v H := by
  unfold isLst at h
  split at h
  · split at h
    · rename_i n xs hn
      obtain ⟨p, hp, rfl⟩ := r
      obtain ⟨u, hu, vs, rfl, _⟩ := rel.get _ _ _ hn hp
      exact .inl ⟨rfl, vs, .inl (.inl hu)⟩
    · cases h
  · simp only [RepV, RepD] at r
    obtain ⟨a, vs, rfl, q, _⟩ := r
    exact .inl ⟨rfl, vs, hm_same.seq q⟩
  · cases h
theorem recv_ty {K : PySem.W.Frag} {m : Mp} {H : Hp} {st : Sto} {x : Vv} {v : V} (f : Mf) (rel : Rel K m st H) (h : recv f x st = true) (r : RepV K m H x v) : tyV K (mfTy f) v H := by
  cases f
  · exact txt_ty h r
  · exact txt_ty h r
  · exact lst_ty rel h r
theorem doM_calm (m : Mf) (x : Vv) (vs : List Vv) (st : Sto) : (∃ y st', doM m x vs st = .ok y st') ∨ doM m x vs st = .stuck := by
  cases m <;> simp only [doM]
  · unfold opm give; split <;> (try split) <;> simp
  · unfold opm give; split <;> (try split) <;> simp
  · unfold appV; split <;> (try split) <;> (try split) <;> simp
theorem le_meth (hK : g.K = X.K) (f : Mf) {ap : Pos} {o : Expr} {fo : En → Sto → R Vv} (ho : PE X o (LE g fo)) (ha : PA X (e :: es) (LA g fr)) (hs : (e :: es).all noStar = true) (hn : es.length < 20) (hb : plainBase o = true) (hl : (ap.endLine == pos.line) = true) :
    PE X (.Call (.Attribute o (mfName f) ap) (e :: es) [] pos) (LE g (mth f fo fr)) := by
  have hs' := hs
  simp only [List.all_cons, Bool.and_eq_true] at hs'
  refine pe_weak (pe_bm (mf_attrs f) (mf_slot f) (mf_type f) (mf_rule f) ho ha (base_ok hb _ _) ?_ hl (star_cons hs'.1 X.env) (star_any hs'.2 X.env pos)) ?_
  · rw [star_all hs]
    simp [keywordEach, backToKw]
    omega
  · rintro σ H Q ⟨m, en, st, rel, re, out⟩
    refine ⟨m, en, st, rel, re, Out.bind out fun x st1 m1 H1 v e1 x1 l1 rx o1 => ?_⟩
    split at o1
    · rename_i hr
      refine ⟨by rw [← hK]; exact recv_ty f l1 hr rx, m1, en, st1, l1, re.ext x1, Out.bind o1 fun xs st2 m2 H2 vs e2 x2 l2 rxs o2 => ?_⟩
      rw [← hK]
      rcases doM_calm f x xs st2 with ⟨y, st3, h3⟩ | h3
      · rw [h3] at o2
        exact ⟨m2, st2, x, xs, y, st3, l2, rx.ext x2, rxs, h3, fun m' H' w x' l' r' => o2 m' H' w x' l' r'⟩
      · rw [h3] at o2; exact o2.elim
    · exact o1.elim
theorem le_meth0 (hK : g.K = X.K) (f : Mf) {ap : Pos} {o : Expr} {fo : En → Sto → R Vv} (ho : PE X o (LE g fo)) (hb : plainBase o = true) (hl : (ap.endLine == pos.line) = true) :
    PE X (.Call (.Attribute o (mfName f) ap) [] [] pos) (LE g (mth f fo fun _ st => .ok [] st)) := by
  refine pe_weak (pe_bm0 (mf_attrs f) (mf_slot f) (mf_type f) (mf_rule f) ho (base_ok hb _ _) hl) ?_
  rintro σ H Q ⟨m, en, st, rel, re, out⟩
  refine ⟨m, en, st, rel, re, Out.bind out fun x st1 m1 H1 v e1 x1 l1 rx o1 => ?_⟩
  split at o1
  · rename_i hr
    rw [bind_ok] at o1
    rw [← hK]
    refine ⟨recv_ty f l1 hr rx, ?_⟩
    rcases doM_calm f x [] st1 with ⟨y, st3, h3⟩ | h3
    · rw [h3] at o1
      exact ⟨m1, st1, x, [], y, st3, l1, rx, .nil, h3, fun m' H' w x' l' r' => o1 m' H' w x' l' r'⟩
    · rw [h3] at o1; exact o1.elim
  · exact o1.elim
end TW
namespace TW
open PySem PySem.Spec PyProof.Rows L2
variable {X : Cx} {g : Gx} {a b c e tg : Expr} {es : List Expr} {pos : Pos} {fa fb fc : En → Sto → R Vv} {fr : En → Sto → R (List Vv)}

/-! ### subscripts -/
theorem RepDs.atI {K : PySem.W.Frag} {H : Hp} {ds : List D} {vs : List V} {i : Int} {d : D} (h : RepDs K H ds vs) (e : L2.atI ds i = some d) : ∃ v, L2.atI vs i = some v ∧ RepD K H d v := by
  unfold L2.atI at e ⊢
  rw [← h.length]
  cases hj : ixN ds.length i with
  | none => rw [hj] at e; cases e
  | some j =>
    rw [hj] at e
    exact RepDs.get h e
theorem strOk_one {s : Str} {c : Nat} {i : Int} (h : PyData.strOk s = true) (e : L2.atI s.cps.toList i = some c) : PyData.strOk ⟨#[c]⟩ = true := by
  rw [strOk_iff] at h ⊢
  intro d hd
  simp at hd
  subst hd
  unfold L2.atI at e
  cases hj : ixN s.cps.toList.length i with
  | none => rw [hj] at e; cases e
  | some j =>
    rw [hj] at e
    exact h _ (List.mem_of_getElem? e)
theorem ix_dk (hu : X.A.units + 64 < cLine) {value slice : Expr} {pins : List (Addr × Obj)} {σ : L2.St} {H : Hp} {s : Shared} {Q : VK} {p : Addr} {kvs : List (Key × V)} {k : Key} {w : V} {u : Value} (I : Inv X pins σ H s) (hp : H p = some (.dK kvs)) (hk : valV kvs k = some w) (ru : RelV (kV k) u) (q : Q w H)
    (hs : subscripted slice false (.ref p) u = operate [.ref p, u] (getItem (.ref p) u)) : wpAny (model X.prog X.w) X.A (subscriptTail value slice (.ref p) u) (EP X pins σ Q) X.xe s := by
  have G : DGet H p (kV k) (some w) := hk ▸ DGet.k hp
  have ty := dict_typeIs I G
  have go : wpAny (model X.prog X.w) X.A (getItem (.ref p) u) (EP X pins σ Q) X.xe s := d_getItem (by omega) I G ru fun w' s' I' r' => ⟨w, H, I', r', q⟩
  unfold subscriptTail
  refine wpAny_bind ?_
  rw [getitemInPython_of_ne ty.not_modules]
  refine wpAny_bind (wpAny_specialOf ty PySem.F.slot_dict_getitem.lookup ?_)
  have fin : wpAny (model X.prog X.w) X.A (subscripted slice false (.ref p) u) (fun r s3 => wpAny (model X.prog X.w) X.A (letTemporaryGo value (.ref p) r >>= fun _ => pure r) (EP X pins σ Q) X.xe s3) X.xe s := by
    rw [hs]
    exact wpAny_operating (wpAny_mono go (fun r s3 h3 => wpAny_bind (wpAny_letTemporaryGo (wpAny_pure h3))) fun _ _ x => x)
  first
    | exact wpAny_bind fin
    | exact wpAny_pure (wpAny_bind fin)
    | (refine wpAny_pure ?_; simp only [Bool.false_eq_true, if_false]; exact wpAny_bind fin)
theorem ix_D (hu : X.A.units + 64 < cLine) : IxR X (r2 X.K idxD) := by
  intro value slice pins s σ H x y v u Q I rx ry h hs
  obtain ⟨m, st, a, b, z, rel, ra, rb, e, q⟩ := h
  unfold idxD at e
  split at e
  · obtain ⟨p, ws, rfl, h1, l, h2⟩ := rep_lst ra
    rw [rep_int rb] at ry
    obtain ⟨w, h3, h4⟩ := h2.atI e
    exact ix_list value slice pins s σ H _ _ v u Q I rx ry ⟨p, ws, _, w, rfl, rfl, h1, h3, q.now rel h4⟩ hs
  · obtain ⟨p, ws, rfl, h1, l, h2⟩ := rep_tup ra
    rw [rep_int rb] at ry
    obtain ⟨w, h3, h4⟩ := h2.atI e
    exact ix_tup value slice pins s σ H _ _ v u Q I rx ry ⟨p, ws, _, w, rfl, rfl, same_tup hm_same h1, h3, q.now rel h4⟩ hs
  · obtain ⟨rfl, l, o⟩ := rep_str ra
    rw [rep_int rb] at ry
    split at e <;> cases e
    rename_i c hc
    exact ix_str value slice pins s σ H _ _ v u Q I rx ry ⟨_, _, c, rfl, rfl, l, hc, q.str rel (by show 1 ≤ _; rw [sizeLine_eq]; decide) (strOk_one o hc)⟩ hs
  · split at e
    · rename_i k' hk
      simp only [RepR, RepD] at ra
      obtain ⟨p, vs, rfl, q1, q2, q3⟩ := ra
      have := keyOf_rep rb hk
      subst this
      cases rx
      obtain ⟨w, h1, h2⟩ := zip_get q3 e
      exact ix_dk hu I (hm_same _ _ q1) h1 ry (q.now rel h2) hs
    · cases e
  · cases e
def plainIx : Expr → Bool
  | .Slice _ _ _ _ => false
  | _ => true
theorem ix_ok (h : plainIx b = true) : ∀ o i, subscripted b false o i = operate [o, i] (getItem o i) := by
  intro o i
  cases b <;> first | rfl | cases h
theorem le_idx (hK : g.K = X.K) (hu : X.A.units + 64 < cLine) (ha : PE X a (LE g fa)) (hb : PE X b (LE g fb)) (hp : plainIx b = true) : PE X (.Subscript a b pos) (LE g fun en st => (fa en st).bind fun x st => (fb en st).bind fun y st => op2 idxD x y st) :=
  pe_weak (pe_ix (ix_D hu) ha hb (ix_ok hp)) (by rw [← hK]; exact two_op)
/-! ### slices -/
def LO (g : Gx) (f : En → Sto → R (Option Int)) : TO := fun σ H Q => ∃ m en st, Rel g.K m st H ∧ RepE g.K m H en σ ∧ Out g m H σ (fun _ _ (a b : Option Int) => a = b) Q (f en st)
theorem po_weak {e : Option Expr} {t t' : TO} (h : PO X e t) (k : ∀ σ H Q, t' σ H Q → t σ H Q) : PO X e t' := ⟨fun pins s σ H Q I q => h.run pins s σ H Q I (k σ H Q q)⟩
theorem lo_none : PO X none (LO g fun _ st => .ok none st) := by
  refine po_weak po_none ?_
  rintro σ H Q ⟨m, en, st, rel, re, out⟩
  exact out m H none .refl rel rfl
theorem lo_some (ha : PE X a (LE g fa)) : PO X (some a) (LO g fun en st => (fa en st).bind fun x st => match x with | .d (.int i) => .ok (some i) st | _ => .stuck) := by
  refine po_weak (po_some ha) ?_
  rintro σ H Q ⟨m, en, st, rel, re, out⟩
  refine ⟨m, en, st, rel, re, Out.bind out fun x st1 m1 H1 v e1 x1 l1 rx o1 => ?_⟩
  split at o1
  · rename_i i
    simp only [RepV, RepD] at rx
    exact ⟨i, rx, o1 m1 H1 _ .refl l1 rfl⟩
  · exact o1.elim
theorem cut_rep {K : PySem.W.Frag} {H : Hp} {ds : List D} {vs : List V} (h : RepDs K H ds vs) (lo hi : Option Int) : RepDs K H (cutD ds lo hi) (cutV vs lo hi) := by
  unfold cutD cutV
  rw [h.length]
  exact (h.drop _).take _
theorem cut_len (ds : List D) (lo hi : Option Int) : (cutD ds lo hi).length ≤ ds.length := by
  unfold cutD
  rw [List.length_take, List.length_drop]
  omega
theorem cutS_ok {z : Str} (h : PyData.strOk z = true) (lo hi : Option Int) : PyData.strOk (cutS z lo hi) = true := by
  rw [strOk_iff] at h ⊢
  intro c hc
  exact h c (List.mem_of_mem_drop (List.mem_of_mem_take hc))
def rSl (K : PySem.W.Frag) : V → Option Int → Option Int → Hp → VK → Prop := fun x lo hi H Q => ∃ m st d z, Rel K m st H ∧ RepR K m H d x ∧ slcD d lo hi = some z ∧ GivF K m H st z Q
theorem cut_whole {ds : List D} {lo hi : Option Int} (h1 : HT.sIx ds.length 0 lo = 0) (h2 : HT.sIx ds.length ds.length hi = ds.length) : cutD ds lo hi = ds := by
  unfold cutD
  rw [h1, h2]
  simp
theorem sl_D : SlR X (rSl X.K) := by
  intro pins s σ H x v vl vu lo hi sl Q I rx hs pl pu h
  obtain ⟨m, st, d, z, rel, rd, e, q⟩ := h
  unfold slcD at e
  split at e <;> cases e
  · obtain ⟨rfl, l, o⟩ := rep_str rd
    exact sl_str pins s σ H _ v vl vu _ _ sl Q I rx hs pl pu ⟨_, rfl, l, Giv.str q rel (Nat.le_trans (cutS_length _ _ _) l) (cutS_ok o _ _)⟩
  · obtain ⟨p, ws, rfl, h1, l, h2⟩ := rep_lst rd
    exact sl_list pins s σ H _ v vl vu _ _ sl Q I rx hs pl pu ⟨p, ws, rfl, h1, fun p n => q m H _ p .refl rel (cut_rep h2 _ _) (Nat.le_trans (cut_len _ _ _) l) n⟩
  · obtain ⟨p, ws, rfl, h1, l, h2⟩ := rep_tup rd
    refine sl_tupA pins s σ H _ v vl vu _ _ sl Q I rx hs pl pu ⟨p, ws, rfl, same_tup hm_same h1, fun hw => ?_, fun _ p n => Giv.tup q rel (cut_rep h2 _ _) (Nat.le_trans (cut_len _ _ _) l) n⟩
    rw [← h2.length] at hw
    rw [cut_whole hw.1 hw.2] at q
    exact Giv.now q rel (by simp only [RepD]; exact ⟨p, ws, rfl, h1, l, h2⟩)
theorem lf_slc (hK : g.K = X.K) {lo hi : Option Expr} {fl fh : En → Sto → R (Option Int)} {p2 : Pos} (ha : PE X a (LE g fa)) (hl : PO X lo (LO g fl)) (hh : PO X hi (LO g fh)) :
    PE X (.Subscript a (.Slice lo hi none p2) pos) (LF g fun en st => (fa en st).bind fun x st => (fl en st).bind fun l st => (fh en st).bind fun h st => op1 (fun d => slcD d l h) x st) := by
  refine pe_weak (pe_slice sl_D ha hl hh) ?_
  rintro σ H Q ⟨m, en, st, rel, re, out⟩
  refine ⟨m, en, st, rel, re, OutF.bind out fun x st1 m1 H1 v e1 x1 l1 rx o1 => ?_⟩
  refine ⟨m1, en, st1, l1, re.ext x1, OutF.bind o1 fun l st2 m2 H2 l' e2 x2 l2 rl o2 => ?_⟩
  subst rl
  refine ⟨m2, en, st2, l2, (re.ext x1).ext x2, OutF.bind o2 fun h st3 m3 H3 h' e3 x3 l3 rh o3 => ?_⟩
  subst rh
  unfold op1 give at o3
  rw [← hK]
  split at o3
  · rename_i d hd
    split at o3
    · rename_i z hz
      refine ⟨m3, st3, d, z, l3, der_rep l3 hd ((rx.ext x2).ext x3), hz, ?_⟩
      cases z with
      | lst ds => exact o3
      | _ => exact o3
    · exact o3.elim
  · exact o3.elim
/-! ### what is walked -/
structure Wk (K : PySem.W.Frag) (m0 : Mp) (H0 : Hp) (w : Wl) (J : L2.It) : Prop where
  stop : ∀ m H st, (∃ t, m.ad = m0.ad ++ t) → Same (hm m0 H0) (hm m H) → Rel K m st H → pinOk w.pins st = true → J.stop w.xs.length H
  go : ∀ m H st, (∃ t, m.ad = m0.ad ++ t) → Same (hm m0 H0) (hm m H) → Rel K m st H → pinOk w.pins st = true → ∀ i d, w.xs[i]? = some d → J.go i H
  yld : ∀ m H st, (∃ t, m.ad = m0.ad ++ t) → Same (hm m0 H0) (hm m H) → Rel K m st H → pinOk w.pins st = true → ∀ i d x H', w.xs[i]? = some d → J.yld i H x H' → Ext m H m H' ∧ Rel K m st H' ∧ RepD K (hm m H') d x
def LI (g : Gx) (f : En → Sto → R Wl) : TI := fun σ H Q => ∃ m en st, Rel g.K m st H ∧ RepE g.K m H en σ ∧ Out g m H σ (Wk g.K) Q (f en st)
theorem wk_list {K : PySem.W.Frag} {m0 : Mp} {H0 : Hp} {p : Addr} {ds : List D} {vs : List V} (h : SqL K (hm m0 H0) p vs) (r : RepDs K (hm m0 H0) ds vs) : Wk K m0 H0 ⟨ds, []⟩ (Itl K p) where
  stop m H st _ x _ _ := ⟨vs, hm_same.seq (x.seq h), by rw [← r.length]; exact Nat.le_refl _⟩
  go m H st _ x _ _ i d hd := by
    obtain ⟨v, e, _⟩ := r.get hd
    exact ⟨vs, v, hm_same.seq (x.seq h), e⟩
  yld m H st _ x rel _ i d y H' hd hy := by
    obtain ⟨rfl, hy⟩ := hy
    obtain ⟨v, e, rv⟩ := r.get hd
    have := hy vs (hm_same.seq (x.seq h))
    rw [e] at this
    cases this
    exact ⟨.refl, rel, RepD.mono x _ _ rv⟩
/-- a pinned list as it lies -/
theorem pin_rep {K : PySem.W.Frag} {m0 m : Mp} {H : Hp} {st : Sto} {n : Nat} {ds : List D} {p : Addr} (hp : m0.ad[n]? = some p) (t : ∃ t, m.ad = m0.ad ++ t) (rel : Rel K m st H) (k : pinOk [(n, ds)] st = true) :
    ∃ vs, H p = some (.lst vs) ∧ RepDs K (hm m H) ds vs := by
  obtain ⟨t, ht⟩ := t
  simp only [pinOk, List.all_cons, List.all_nil, Bool.and_true] at k
  split at k
  · rename_i ys hy
    have := sameDs_eq _ _ k
    subst this
    obtain ⟨u, h1, h2⟩ := rel.get n _ p hy (by rw [ht, List.getElem?_append_left (List.getElem?_eq_some_iff.mp hp).1]; exact hp)
    obtain ⟨vs, rfl, h3, _⟩ := h2
    exact ⟨vs, h1, h3⟩
  · cases k
theorem sql_of {K : PySem.W.Frag} {H : Hp} {p : Addr} {vs : List V} (h : H p = some (.lst vs)) : SqL K H p vs := .inl (.inl h)
theorem wk_pin {K : PySem.W.Frag} {m0 : Mp} {H0 : Hp} {p : Addr} {ds : List D} {n : Nat} (hp : m0.ad[n]? = some p) : Wk K m0 H0 ⟨ds, [(n, ds)]⟩ (Itl K p) where
  stop m H st t x rel k := by
    obtain ⟨vs, h1, h2⟩ := pin_rep hp t rel k
    exact ⟨vs, sql_of h1, by rw [← h2.length]; exact Nat.le_refl _⟩
  go m H st t x rel k i d hd := by
    obtain ⟨vs, h1, h2⟩ := pin_rep hp t rel k
    obtain ⟨v, e, _⟩ := h2.get hd
    exact ⟨vs, v, sql_of h1, e⟩
  yld m H st t x rel k i d y H' hd hy := by
    obtain ⟨rfl, hy⟩ := hy
    obtain ⟨vs, h1, h2⟩ := pin_rep hp t rel k
    obtain ⟨v, e, rv⟩ := h2.get hd
    have := hy vs (sql_of h1)
    rw [e] at this
    cases this
    exact ⟨.refl, rel, rv⟩
theorem wk_tup {K : PySem.W.Frag} {m0 : Mp} {H0 : Hp} {p : Addr} {ds : List D} {vs : List V} (h : SqT K (hm m0 H0) p vs) (r : RepDs K (hm m0 H0) ds vs) : Wk K m0 H0 ⟨ds, []⟩ (Itt K p) where
  stop m H st _ x _ _ := ⟨vs, same_tup hm_same (same_tup x h), by rw [← r.length]; exact Nat.le_refl _⟩
  go m H st _ x _ _ i d hd := by
    obtain ⟨v, e, _⟩ := r.get hd
    exact ⟨vs, v, same_tup hm_same (same_tup x h), e⟩
  yld m H st _ x rel _ i d y H' hd hy := by
    obtain ⟨rfl, hy⟩ := hy
    obtain ⟨v, e, rv⟩ := r.get hd
    have := hy vs (same_tup hm_same (same_tup x h))
    rw [e] at this
    cases this
    exact ⟨.refl, rel, RepD.mono x _ _ rv⟩
theorem wk_str {K : PySem.W.Frag} {m0 : Mp} {H0 : Hp} {s : Str} (o : PyData.strOk s = true) : Wk K m0 H0 ⟨s.cps.toList.map fun c => D.str ⟨#[c]⟩, []⟩ (Its s) where
  stop m H st _ x _ _ := by
    rw [List.length_map]
    first | exact Nat.le_refl _ | (rw [List.length_range]; exact Nat.le_refl _)
  go m H st _ x _ _ i d hd := by
    have := (List.getElem?_eq_some_iff.mp hd).1
    simp at this
    exact this
  yld m H st _ x rel _ i d y H' hd hy := by
    obtain ⟨rfl, c, hc, rfl⟩ := hy
    rw [List.getElem?_map, Array.getElem?_toList, hc] at hd
    cases hd
    refine ⟨.refl, rel, ?_⟩
    simp only [RepD]
    refine ⟨trivial, by show 1 ≤ _; rw [sizeLine_eq]; decide, ?_⟩
    rw [strOk_iff] at o ⊢
    intro d hd
    simp at hd
    subst hd
    exact o _ (by rw [← Array.getElem?_toList] at hc; exact List.mem_of_getElem? hc)
theorem wk_range {K : PySem.W.Frag} {m0 : Mp} {H0 : Hp} {n : Nat} : Wk K m0 H0 ⟨(List.range n).map fun (i : Nat) => D.int i, []⟩ (Itr 0 n) where
  stop m H st _ x _ _ := by
    rw [List.length_map]
    first | exact Nat.le_refl _ | (rw [List.length_range]; exact Nat.le_refl _)
  go m H st _ x _ _ i d hd := by
    have := (List.getElem?_eq_some_iff.mp hd).1
    simp at this
    exact this
  yld m H st _ x rel _ i d y H' hd hy := by
    obtain ⟨rfl, rfl⟩ := hy
    obtain ⟨hl, e⟩ := List.getElem?_eq_some_iff.mp hd
    simp at e
    subst e
    refine ⟨.refl, rel, ?_⟩
    simp only [RepD, Int.zero_add]
theorem li_val (hK : g.K = X.K) (ha : PE X a (LE g fa)) : PI X tg a (LI g fun en st => (fa en st).bind kIv) := by
  refine ⟨fun pins s σ H R I h => ?_⟩
  obtain ⟨m, en, st, rel, re, out⟩ := h
  dsimp only at out
  cases hf : fa en st with
  | stuck => rw [hf] at out; exact out.elim
  | exc x st1 =>
    refine (pi_list ha).run pins s σ H R I ⟨m, en, st, rel, re, ?_⟩
    rw [hf] at out ⊢
    exact out
  | ok x st1 =>
    rw [hf, bind_ok] at out
    unfold kIv at out
    split at out
    · rename_i d
      split at out
      · rename_i xs hx
        unfold itemsD at hx
        split at hx <;> cases hx
        · refine (pi_list ha).run pins s σ H R I ⟨m, en, st, rel, re, ?_⟩
          rw [hf]
          intro m' H' v x' l' r'
          simp only [RepV, RepD] at r'
          obtain ⟨p, vs, rfl, q1, _, q2⟩ := r'
          rw [← hK]
          exact ⟨p, rfl, ⟨vs, hm_same.seq q1⟩, out m' H' _ x' l' (wk_list q1 q2)⟩
        · refine (pi_tup ha).run pins s σ H R I ⟨m, en, st, rel, re, ?_⟩
          rw [hf]
          intro m' H' v x' l' r'
          simp only [RepV, RepD] at r'
          obtain ⟨p, vs, rfl, q1, _, q2⟩ := r'
          rw [← hK]
          exact ⟨p, rfl, ⟨vs, same_tup hm_same q1⟩, out m' H' _ x' l' (wk_tup q1 q2)⟩
        · refine (pi_str ha).run pins s σ H R I ⟨m, en, st, rel, re, ?_⟩
          rw [hf]
          intro m' H' v x' l' r'
          simp only [RepV, RepD] at r'
          obtain ⟨rfl, _, o⟩ := r'
          exact ⟨_, rfl, out m' H' _ x' l' (wk_str o)⟩
      · exact out.elim
    · rename_i n
      split at out
      · rename_i xs hx
        refine (pi_list ha).run pins s σ H R I ⟨m, en, st, rel, re, ?_⟩
        rw [hf]
        intro m' H' v x' l' r'
        obtain ⟨p, q1, rfl⟩ := r'
        obtain ⟨u, h1, h2⟩ := l'.get n _ p hx q1
        obtain ⟨vs, rfl, h3, _⟩ := h2
        rw [← hK]
        exact ⟨p, rfl, ⟨vs, sql_of h1⟩, out m' H' _ x' l' (wk_pin q1)⟩
      · exact out.elim
theorem li_range1 {p : Pos} (hg : Gl X "range") (hm : X.mg "range" = none) (ha : PA X [a] (LA g fun en st => (fa en st).bind fun x st => .ok [x] st)) (hs : noStar a = true) :
    PI X tg (.Call (.Name "range" p) [a] [] pos) (LI g fun en st => (fa en st).bind kIr) := by
  refine ⟨fun pins s σ H R I h => (pi_range1 hg hm ha (star_cons hs X.env)).run pins s σ H R I ?_⟩
  obtain ⟨m, en, st, rel, re, out⟩ := h
  refine ⟨m, en, st, rel, re, ?_⟩
  dsimp only at out ⊢
  cases hf : fa en st with
  | stuck => rw [hf] at out; exact out.elim
  | exc x st1 => rw [hf] at out; exact out
  | ok x st1 =>
    rw [hf, bind_ok] at out
    rw [bind_ok]
    unfold kIr at out
    split at out
    · rename_i n
      split at out
      · rename_i hn
        intro m' H' v x' l' r'
        obtain ⟨w, rfl, rw'⟩ := p1 r'
        simp only [RepV, RepD] at rw'
        exact ⟨n, by rw [rw'], hn.1, hn.2, out m' H' _ x' l' wk_range⟩
      · exact out.elim
    · exact out.elim
/-! ### targets -/
/-- nothing but some slots is otherwise -/
structure Agree (own : Nat → Prop) (σ σ' : L2.St) : Prop where
  len : σ'.length = σ.length
  eq : ∀ j, ¬ own j → σ'[j]? = σ[j]?
theorem Agree.refl {own : Nat → Prop} {σ : L2.St} : Agree own σ σ := ⟨rfl, fun _ _ => rfl⟩
theorem Agree.trans {own : Nat → Prop} {σ σ1 σ2 : L2.St} (a : Agree own σ σ1) (b : Agree own σ1 σ2) : Agree own σ σ2 := ⟨b.len.trans a.len, fun j h => (b.eq j h).trans (a.eq j h)⟩
def OutG (g : Gx) (own : Nat → Prop) (σ : L2.St) (m : Mp) (H : Hp) (Q : L2.St → Hp → Prop) : R En → Prop
  | .ok en st => ∀ m' H' σ', Ext m H m' H' → Rel g.K m' st H' → RepE g.K m' H' en σ' → Agree own σ σ' → Q σ' H'
  | _ => False
variable {own : Nat → Prop}
theorem OutG.ext {m m1 : Mp} {H H1 : Hp} {σ : L2.St} {Q : L2.St → Hp → Prop} {r : R En} (e : Ext m H m1 H1) (h : OutG g own σ m H Q r) : OutG g own σ m1 H1 Q r := by
  cases r with
  | ok x st => exact fun m' H' v q => h m' H' v (e.trans q)
  | exc x st => exact h
  | stuck => exact h
theorem OutG.slots {m : Mp} {H : Hp} {σ σ1 : L2.St} {Q : L2.St → Hp → Prop} {r : R En} (e : Agree own σ σ1) (h : OutG g own σ m H Q r) : OutG g own σ1 m H Q r := by
  cases r with
  | ok x st => exact fun m' H' v q l r a => h m' H' v q l r (e.trans a)
  | exc x st => exact h
  | stuck => exact h
theorem OutG.bind {m : Mp} {H : Hp} {σ : L2.St} {α β : Type} {rep : Mp → Hp → α → β → Prop} {Q : L2.St → Hp → Prop} {r : R α} {f : α → Sto → R En} {P : β → Hp → Prop} (h : OutG g own σ m H Q (r.bind f))
    (k : ∀ x st m' H' v, r = .ok x st → Ext m H m' H' → Rel g.K m' st H' → rep m' H' x v → OutG g own σ m' H' Q (f x st) → P v H') : Out g m H σ rep P r := by
  cases r with
  | ok x st => exact fun m' H' v e l q => k x st m' H' v rfl e l q (OutG.ext e h)
  | exc x st => exact h.elim
  | stuck => exact h
def LG (g : Gx) (own : Nat → Prop) (f : Vv → En → Sto → R En) : TG := fun v σ H Q => ∃ m en st x, Rel g.K m st H ∧ RepE g.K m H en σ ∧ RepV g.K m H x v ∧ OutG g own σ m H Q (f x en st)
def LGs (g : Gx) (own : Nat → Prop) (f : List D → En → Sto → R En) : TGs := fun vs σ H Q => ∃ m en st xs, Rel g.K m st H ∧ RepE g.K m H en σ ∧ RepDs g.K (hm m H) xs vs ∧ OutG g own σ m H Q (f xs en st)
theorem pg_weak {t t' : TG} (h : PG X tg t) (k : ∀ v σ H Q, t' v σ H Q → t v σ H Q) : PG X tg t' := ⟨fun pins s σ H v u Q I r q => h.run pins s σ H v u Q I r (k v σ H Q q)⟩
theorem pgs_weak {t t' : TGs} (h : PGs X es t) (k : ∀ v σ H Q, t' v σ H Q → t v σ H Q) : PGs X es t' := ⟨fun pins s σ H v u Q I r q => h.run pins s σ H v u Q I r (k v σ H Q q)⟩
theorem lg_name {i : Nat} {x : Str} (hN : X.N.Nodup) (hi : X.N[i]? = some x) (hx : Loc X.env.scope x) (hf : X.fn x = true ∨ X.env.scope.names.lookup x = some .local) (ho : own i) : PG X (.Name x pos) (LG g own fun v en st => .ok (en.set i (some v)) st) := by
  refine pg_weak (pg_name hN hi hx hf) ?_
  rintro v σ H Q ⟨m, en, st, x, rel, re, rx, out⟩
  refine out m H _ .refl rel (re.set rx i) ⟨by simp, fun j hj => ?_⟩
  have ne : i ≠ j := fun e => hj (by rw [← e]; exact ho)
  exact List.getElem?_set_ne ne
theorem lgs_nil : PGs X [] (LGs g own fun xs en st => match xs with | [] => .ok en st | _ => .stuck) := by
  refine pgs_weak pgs_nil ?_
  rintro v σ H Q ⟨m, en, st, xs, rel, re, rx, out⟩
  cases xs with
  | nil => simp only [RepDs] at rx; exact ⟨rx, out m H σ .refl rel re .refl⟩
  | cons x xs => exact out.elim
theorem assign_cons (h : noStar e = true) (env : Env) : (assignEach (e :: es) env).map (·.2) = assign e env :: (assignEach es env).map (·.2) := by
  cases e <;> first | rfl | cases h
theorem assign_len : ∀ (es : List Expr) (env : Env), (assignEach es env).length = es.length
  | [], _ => rfl
  | e :: es, env => by
    have := assign_len es env
    cases e <;> simp [assignEach, this]
theorem assign_nostar : ∀ {es : List Expr} (h : es.all noStar = true) (env : Env), (assignEach es env).findIdx? (·.1) = none
  | [], _, _ => rfl
  | e :: es, h, env => by
    simp only [List.all_cons, Bool.and_eq_true] at h
    have := assign_nostar h.2 env
    cases e <;> first | (cases h.1; done) | simp [assignEach, List.findIdx?_cons, this]
theorem lgs_cons {ft : Vv → En → Sto → R En} {fs : List D → En → Sto → R En} (h1 : PG X e (LG g own ft)) (h2 : PGs X es (LGs g own fs)) (hs : noStar e = true) : PGs X (e :: es) (LGs g own fun xs en st => match xs with | x :: xs => (ft (.d x) en st).bind fun en st => fs xs en st | [] => .stuck) := by
  refine pgs_weak (pgs_cons h1 h2 (assign_cons hs X.env)) ?_
  rintro v σ H Q ⟨m, en, st, xs, rel, re, rx, out⟩
  cases xs with
  | nil => exact out.elim
  | cons x xs =>
    obtain ⟨w, r, rfl, p, q⟩ := rx.uncons
    refine ⟨w, r, rfl, m, en, st, .d x, rel, re, p, ?_⟩
    dsimp only at out
    cases hf : ft (.d x) en st with
    | stuck => rw [hf] at out; exact out
    | exc _ _ => rw [hf] at out; exact out
    | ok en2 st2 =>
      rw [hf, bind_ok] at out
      exact fun m' H' σ' e' l' r' a' => ⟨m', en2, st2, xs, l', r', q.mono e'.same, OutG.slots a' (OutG.ext e' out)⟩
theorem lg_tup (hK : g.K = X.K) {k : Nat} {fs : List D → En → Sto → R En} (hc : X.calm = true) (h : PGs X es (LGs g own fs)) (hs : es.all noStar = true) (hl : ∀ xs en st en' st', fs xs en st = .ok en' st' → xs.length = es.length) : PG X (.Tuple es k pos) (LG g own fun v en st => match v with | .d (.tup xs) => fs xs en st | _ => .stuck) := by
  refine pg_weak (pg_tup (n := es.length) hc h (assign_len es X.env) (assign_nostar hs X.env)) ?_
  rintro v σ H Q ⟨m, en, st, x, rel, re, rx, out⟩
  dsimp only at out
  split at out
  · rename_i xs
    simp only [RepV, RepD] at rx
    obtain ⟨p, vs, rfl, q1, _, q2⟩ := rx
    refine ⟨p, vs, rfl, by rw [← hK]; exact same_tup hm_same q1, ?_, m, en, st, xs, rel, re, q2, out⟩
    rw [← q2.length]
    cases hf : fs xs en st with
    | ok en2 st2 => exact hl _ _ _ _ _ hf
    | stuck => rw [hf] at out; exact out.elim
    | exc _ _ => rw [hf] at out; exact out.elim
  · exact out.elim
def rPut (K : PySem.W.Frag) : TSet := fun o i v H Q => ∃ m st x y z st', Rel K m st H ∧ RepV K m H x o ∧ RepV K m H y i ∧ RepV K m H z v ∧ putV x y z st = .ok () st' ∧ ∀ m' H', Ext m H m' H' → Rel K m' st' H' → Q H'
theorem set_D : PSet X (rPut X.K) := by
  intro pins s σ H o i v ov iv u Q I ro ri rv h
  obtain ⟨m, st, x, y, z, st', rel, rx, ry, rz, e, q⟩ := h
  unfold putV at e
  split at e
  · split at e
    · split at e <;> cases e
      rename_i n k d _ ds hn _ j hj
      obtain ⟨p, hp, rfl⟩ := rx
      simp only [RepV, RepD] at ry
      subst ry
      obtain ⟨w, hu, vs, rfl, r1, l1⟩ := rel.get _ _ _ hn hp
      obtain ⟨r2, x2⟩ := rel.put (ob := .lst (ds.set j d)) (o := .lst (vs.set j v)) hp ⟨_, rfl, r1.set rz j, by simpa using l1⟩
      exact set_list pins s σ H _ _ v ov iv u Q I ro ri rv ⟨p, vs, k, j, rfl, rfl, hu, by rw [← r1.length]; exact hj, q m _ x2 r2⟩
    · cases e
  · cases e
def plainSub : Expr → Bool
  | .Slice _ _ _ _ => false
  | _ => true
theorem sub_ok {o i : Expr} (h : plainSub i = true) (env : Env) : ∀ v, assign (.Subscript o i pos) env v = (do
      let ov ← holding [v] (eval o env)
      let iv ← holding [v, ov] (eval i env)
      standAt pos
      holding [v, ov, iv] (setItem ov iv v)
      release [v, ov, iv] []) := by
  intro v
  cases i <;> first | rfl | cases h
theorem lg_sub (hK : g.K = X.K) {o i : Expr} {fo fi : En → Sto → R Vv} (ho : PE X o (LE g fo)) (hi : PE X i (LE g fi)) (hp : plainSub i = true) : PG X (.Subscript o i pos) (LG g own fun v en st => (fo en st).bind fun x st => (fi en st).bind fun y st => (putV x y v st).bind fun _ st => .ok en st) := by
  refine pg_weak (pg_sub ho hi set_D (sub_ok hp X.env)) ?_
  rintro v σ H Q ⟨m, en, st, z, rel, re, rz, out⟩
  refine ⟨m, en, st, rel, re, OutG.bind out fun x st1 m1 H1 v1 e1 x1 l1 rx o1 => ?_⟩
  refine ⟨m1, en, st1, l1, re.ext x1, OutG.bind o1 fun y st2 m2 H2 w e2 x2 l2 ry o2 => ?_⟩
  rw [← hK]
  cases hp : putV x y z st2 with
  | stuck => rw [hp] at o2; exact o2.elim
  | exc _ _ => rw [hp] at o2; exact o2.elim
  | ok u st3 =>
    rw [hp, bind_ok] at o2
    exact ⟨m2, st2, x, y, z, st3, l2, rx.ext x2, ry, (rz.ext x1).ext x2, hp, fun m' H' x' l' => o2 m' H' σ x' l' (((re.ext x1).ext x2).ext x') .refl⟩
end TW
namespace TW
open PySem PySem.Spec PyProof.Rows L2
variable {X : Cx} {g : Gx} {a b c e tg : Expr} {es : List Expr} {pos : Pos} {fa fb fc : En → Sto → R Vv} {fr : En → Sto → R (List Vv)}

/-! ### comprehensions -/
def Gx.quiet (g : Gx) : Gx := { g with W := fun _ _ _ _ => False }
theorem RepE.wipe {K : PySem.W.Frag} {m : Mp} {H : Hp} {en : En} {σ : L2.St} (h : RepE K m H en σ) : ∀ own : List Nat, RepE K m H (wipeE en own) (L2.wipe σ own)
  | [] => h
  | v :: vs => by
    have ih := RepE.wipe h vs
    refine ⟨by simp only [wipeE, L2.wipe, List.length_set]; exact ih.1, fun i x e => ?_⟩
    simp only [wipeE, L2.wipe] at e ⊢
    by_cases hi : v = i
    · subst hi
      by_cases hl : v < (wipeE en vs).length
      · rw [List.getElem?_set_self hl] at e; cases e
      · rw [List.getElem?_eq_none (by simp; omega)] at e; cases e
    · rw [List.getElem?_set_ne hi] at e ⊢
      exact ih.2 i x e
theorem RepV.sub {K : PySem.W.Frag} {m m' : Mp} {H H' : Hp} {x : Vv} {v : V} (h : RepV K m H x v) (had : ∃ t, m'.ad = m.ad ++ t) (e : Same (hm m H) (hm m' H')) : RepV K m' H' x v := by
  cases x with
  | d y => exact RepD.mono e _ _ h
  | ref n =>
    obtain ⟨p, h3, h4⟩ := h
    obtain ⟨t, ht⟩ := had
    exact ⟨p, by rw [ht, List.getElem?_append_left (List.getElem?_eq_some_iff.mp h3).1]; exact h3, h4⟩
theorem RepE.sub {K : PySem.W.Frag} {m m' : Mp} {H H' : Hp} {en : En} {σ : L2.St} (h : RepE K m H en σ) (had : ∃ t, m'.ad = m.ad ++ t) (e : Same (hm m H) (hm m' H')) : RepE K m' H' en σ :=
  ⟨h.1, fun i x q => by
    obtain ⟨v, h1, h2⟩ := h.2 i x q
    exact ⟨v, h1, h2.sub had e⟩⟩
theorem wipe_agree {σ σ' : L2.St} {own : List Nat} (a : Agree (· ∈ own) σ σ') : L2.wipe σ' own = L2.wipe σ own := by
  have key : ∀ (own' : List Nat), (∀ x ∈ own', x ∈ own) → ∀ (i : Nat), (i ∈ own' → True) → (∀ j, j ∉ own' → (j ∉ own → (L2.wipe σ' own')[j]? = (L2.wipe σ own')[j]?)) ∧ (∀ j, j ∈ own' → (L2.wipe σ' own')[j]? = (L2.wipe σ own')[j]?) := by
    intro own'
    induction own' with
    | nil => exact fun _ i _ => ⟨fun j _ hj => a.eq j hj, fun j hj => nomatch hj⟩
    | cons v vs ih =>
      intro hs i _
      obtain ⟨h1, h2⟩ := ih (fun x hx => hs x (List.mem_cons_of_mem _ hx)) i (fun _ => trivial)
      have hl : (L2.wipe σ' vs).length = (L2.wipe σ vs).length := by rw [wipe_length, wipe_length, a.len]
      refine ⟨fun j hj ho => ?_, fun j hj => ?_⟩
      · simp only [L2.wipe]
        have hne : v ≠ j := fun e => hj (by simp [e])
        rw [List.getElem?_set_ne hne, List.getElem?_set_ne hne]
        exact h1 j (fun z => hj (List.mem_cons_of_mem _ z)) ho
      · simp only [L2.wipe]
        by_cases hv : v = j
        · subst hv
          by_cases hlt : v < (L2.wipe σ vs).length
          · rw [List.getElem?_set_self hlt, List.getElem?_set_self (by rw [hl]; exact hlt)]
          · rw [List.getElem?_eq_none (by simp; omega), List.getElem?_eq_none (by simp; omega)]
        · rw [List.getElem?_set_ne hv, List.getElem?_set_ne hv]
          rcases List.mem_cons.mp hj with e | e
          · exact absurd e.symm hv
          · exact h2 j e
  obtain ⟨h1, h2⟩ := key own (fun _ h => h) 0 (fun _ => trivial)
  apply List.ext_getElem?
  intro j
  by_cases hj : j ∈ own
  · exact h2 j hj
  · exact h1 j hj hj
theorem wipe_wipe_agree {σ : L2.St} {own : List Nat} {σ2 : L2.St} (a : Agree (· ∈ own) (L2.wipe σ own) σ2) : L2.wipe σ2 own = L2.wipe σ own := by
  rw [wipe_agree a]
  have : ∀ (vs : List Nat) (τ : L2.St), (∀ v ∈ vs, ∀ h : v < τ.length, τ[v]? = some none) → L2.wipe τ vs = τ := by
    intro vs
    induction vs with
    | nil => intro τ _; rfl
    | cons v vs ih =>
      intro τ h
      simp only [L2.wipe]
      rw [ih τ (fun w hw => h w (List.mem_cons_of_mem _ hw))]
      apply List.ext_getElem?
      intro j
      by_cases hv : v = j
      · subst hv
        by_cases hl : v < τ.length
        · rw [List.getElem?_set_self hl, h v (by simp) hl]
        · rw [List.getElem?_eq_none (by simp; omega), List.getElem?_eq_none (by omega)]
      · rw [List.getElem?_set_ne hv]
  refine this own _ fun v hv hl => ?_
  cases hq : (L2.wipe σ own)[v]? with
  | none => rw [List.getElem?_eq_none_iff] at hq; omega
  | some o =>
    cases o with
    | none => rfl
    | some x => exact absurd hv (wipe_some hq).2
def LTq (g : Gx) (ft : En → Sto → R Bool) : TT := LT g.quiet ft
theorem calm_ok {α : Type} {r : R α} {x : α} {st : Sto} (h : r.calm = .ok x st) : r = .ok x st := by
  cases r with
  | ok _ _ => exact h
  | exc _ _ => cases h
  | stuck => cases h
theorem lf_lc {elt iter : Expr} {ifs : List Expr} {scope : Scope} {own : List (Str × Nat)} {fi : En → Sto → R Wl} {fg : Vv → En → Sto → R En} {ft : En → Sto → R Bool} {fe : En → Sto → R Vv} (hK : g.K = X.K) (hc : X.calm = true) (hN : X.N.Nodup)
    (hi : PI X tg iter (LI g fi)) (ok : BlkOk X.N X.env.scope scope own)
    (hg : ∀ (s : Shared) (H : Hp) (C : Addr) (cl : List (Str × Addr)) (fp : List Addr), PG (X.blk s H scope (compEnvC scope cl C X.env) fp) tg (LG g.quiet (· ∈ own.map (·.2)) fg))
    (ht : ∀ (s : Shared) (H : Hp) (C : Addr) (cl : List (Str × Addr)) (fp : List Addr), PTs (X.blk s H scope (compEnvC scope cl C X.env) fp) ifs (LT g.quiet ft))
    (he : ∀ (s : Shared) (H : Hp) (C : Addr) (cl : List (Str × Addr)) (fp : List Addr), PE (X.blk s H scope (compEnvC scope cl C X.env) fp) elt (LE g.quiet fe)) (hs : ∀ x, foldedSetIterable iter X.env x = pure x) :
    ∀ σ H Q, LF g (fun en st => (fi en st).bind fun w st => if w.xs.length ≤ sizeLine then (lcLoop w.pins (fun x en st => fg (.d x) en st) ft fe (wipeE en (own.map (·.2))) w.xs [] st).calm else .stuck) σ H Q →
      tLc (LI g fi) (LG g.quiet (· ∈ own.map (·.2)) fg) (LT g.quiet ft) (LE g.quiet fe) (own.map (·.2)) σ H Q := by
  rintro σ H Q ⟨m, en, st, rel, re, out⟩
  generalize hown : own.map (·.2) = ow at *
  refine ⟨m, en, st, rel, re, OutF.bind out fun w st1 m1 H1 J e1 x1 l1 wk o1 => ?_⟩
  obtain ⟨xs, ps⟩ := w
  dsimp only at o1
  intro D hD
  have re1 := (re.ext x1).wipe ow
  split at o1
  case isFalse => exact o1.elim
  rename_i hlen
  -- what holds between two turns
  refine ⟨fun i k Hk => k = xs.length - i ∧ i ≤ xs.length ∧ ∃ (mk : Mp) (sk : Sto) (acc : List TW.D) (vs : List V), mk.hid = D :: m1.hid ∧ (∃ t, mk.ad = m1.ad ++ t) ∧ (∀ a ∈ m1.hid, Hk a = H1 a) ∧ Same (hm m1 H1) (TW.hm mk Hk) ∧ Rel g.K mk sk Hk ∧
      Hk D = some (.lst vs) ∧ RepDs g.K (TW.hm mk Hk) acc vs ∧ acc.length ≤ i ∧ OutF g m1 H1 σ Q (lcLoop ps (fun x en st => fg (.d x) en st) ft fe (wipeE en ow) (xs.drop i) acc sk).calm, ⟨xs.length, ?_⟩, ?_⟩
  · obtain ⟨h1, h2⟩ := l1.hide (o := .lst []) hD
    have nh := (l1.fresh_ne hD).2
    refine ⟨by simp, Nat.zero_le _, ⟨m1.ad, D :: m1.hid⟩, st1, [], [], rfl, ⟨[], by simp⟩, fun a ha => upd_ne fun e => nh (e ▸ ha), by rw [h2]; exact .refl _, h1, upd_same, .nil, Nat.le_refl _, by simpa using o1⟩
  · rintro i k Hk ⟨rfl, hi, mk, sk, acc, vs, hh, ⟨t, had⟩, hkeep, hsame, hrel, hHD, hacc, hal, ho⟩
    by_cases hlt : i < xs.length
    · have hx : xs[i]? = some xs[i] := List.getElem?_eq_getElem hlt
      have hdrop : xs.drop i = xs[i] :: xs.drop (i + 1) := List.drop_eq_getElem_cons hlt
      rw [hdrop] at ho
      simp only [lcLoop] at ho
      split at ho
      case isFalse => exact ho.elim
      rename_i hpin
      have hDm : D ∈ mk.hid := by rw [hh]; simp
      refine .inr ⟨wk.go mk Hk sk ⟨t, had⟩ hsame hrel hpin i _ hx, fun H' => ∃ (mk : Mp) (sk : Sto) (acc : List TW.D) (vs : List V), mk.hid = D :: m1.hid ∧ (∃ t, mk.ad = m1.ad ++ t) ∧ (∀ a ∈ m1.hid, H' a = H1 a) ∧ Same (hm m1 H1) (TW.hm mk H') ∧ Rel g.K mk sk H' ∧
        H' D = some (.lst vs) ∧ RepDs g.K (TW.hm mk H') acc vs ∧ acc.length ≤ i + 1 ∧ OutF g m1 H1 σ Q (lcLoop ps (fun x en st => fg (.d x) en st) ft fe (wipeE en ow) (xs.drop (i + 1)) acc sk).calm, fun H' p' => ⟨xs.length - (i + 1), by omega, rfl, by omega, p'⟩, fun x H' hy => ?_⟩
      obtain ⟨y1, y2, y3⟩ := wk.yld mk Hk sk ⟨t, had⟩ hsame hrel hpin i _ x H' hx hy
      have hs1 : Same (hm m1 H1) (hm mk H') := hsame.trans y1.same
      have k1 : ∀ a ∈ m1.hid, H' a = H1 a := fun a ha => (y1.keep a (by rw [hh]; exact List.mem_cons_of_mem _ ha)).trans (hkeep a ha)
      -- the item's store
      refine ⟨mk, wipeE en ow, sk, .d xs[i], y2, re1.sub ⟨t, had⟩ hs1, y3, ?_⟩
      cases hg1 : fg (.d xs[i]) (wipeE en ow) sk with
      | stuck => rw [hg1] at ho; exact ho.elim
      | exc _ _ => rw [hg1] at ho; exact ho.elim
      | ok en2 s2 =>
        rw [hg1, bind_ok] at ho
        intro m2 H2 σ2 x2 l2 r2 ag
        refine ⟨wipe_wipe_agree ag, m2, en2, s2, l2, r2, ?_⟩
        cases ht1 : ft en2 s2 with
        | stuck => rw [ht1] at ho; exact ho.elim
        | exc _ _ => rw [ht1] at ho; exact ho.elim
        | ok k s3 =>
          rw [ht1, bind_ok] at ho
          intro m3 H3 k' x3 l3 hk'
          subst hk'
          have x13 := x2.trans x3
          have h3 : m3.hid = D :: m1.hid := by rw [x13.hid, hh]
          have ad3 : ∃ t, m3.ad = m1.ad ++ t := by
            obtain ⟨t2, e2⟩ := x13.pre
            exact ⟨t ++ t2, by rw [e2, had]; simp⟩
          have kp3 : ∀ a ∈ m1.hid, H3 a = H1 a := fun a ha => (x13.keep a (by rw [hh]; exact List.mem_cons_of_mem _ ha)).trans (k1 a ha)
          have D3 : H3 D = some (.lst vs) := by rw [x13.keep D hDm, y1.keep D hDm]; exact hHD
          have acc3 : RepDs g.K (hm m3 H3) acc vs := (hacc.mono y1.same).mono x13.same
          cases k with
          | false => exact ⟨m3, s3, acc, vs, h3, ad3, kp3, hs1.trans x13.same, l3, D3, acc3, by omega, ho⟩
          | true =>
            rw [if_pos rfl] at ho ⊢
            refine ⟨m3, en2, s3, l3, r2.ext x3, ?_⟩
            cases he1 : fe en2 s3 with
            | stuck => rw [he1] at ho; exact ho.elim
            | exc _ _ => rw [he1] at ho; exact ho.elim
            | ok y s4 =>
              rw [he1, bind_ok] at ho
              intro m4 H4 w x4 l4 ry
              cases y with
              | ref _ => exact ho.elim
              | d z =>
                have h4 : m4.hid = D :: m1.hid := by rw [x4.hid, h3]
                have Dm4 : D ∈ m4.hid := by rw [h4]; simp
                have D4 : H4 D = some (.lst vs) := by rw [x4.keep D (by rw [h3]; simp)]; exact D3
                refine ⟨vs, D4, by rw [← hacc.length]; omega, ?_⟩
                obtain ⟨q1, q2⟩ := l4.hput (o := .lst (vs ++ [w])) Dm4
                have nD : D ∉ m1.hid := (l1.fresh_ne hD).2
                refine ⟨m4, s4, acc ++ [z], vs ++ [w], h4, ?_, fun a ha => ?_, ?_, q1, upd_same, ?_, by rw [List.length_append, List.length_singleton]; omega, ho⟩
                · obtain ⟨t3, e3⟩ := ad3
                  obtain ⟨t4, e4⟩ := x4.pre
                  exact ⟨t3 ++ t4, by rw [e4, e3]; simp⟩
                · have ne : a ≠ D := fun e => nD (e ▸ ha)
                  rw [upd_ne ne]
                  exact (x4.keep a (by rw [h3]; exact List.mem_cons_of_mem _ ha)).trans (kp3 a ha)
                · rw [q2]
                  exact (hs1.trans x13.same).trans x4.same
                · rw [q2]
                  exact (acc3.mono x4.same).append (.cons ry .nil)
    · have hi2 : i = xs.length := by omega
      subst hi2
      rw [List.drop_length] at ho
      simp only [lcLoop] at ho
      split at ho
      case isFalse => exact ho.elim
      rename_i hpin
      refine .inl ⟨wk.stop mk Hk sk ⟨t, had⟩ hsame hrel hpin, ?_⟩
      have nD : D ∉ m1.hid := (l1.fresh_ne hD).2
      have e : mk = ⟨mk.ad, D :: m1.hid⟩ := by rw [← hh]
      rw [e] at hrel hacc hsame
      obtain ⟨q1, q2⟩ := Rel.show (m := ⟨mk.ad, m1.hid⟩) hrel nD
      have := ho ⟨mk.ad, m1.hid⟩ (out1 Hk D) vs D ⟨⟨t, had⟩, rfl, fun a ha => ?_, by rw [q2]; exact hsame⟩ q1 (by rw [q2]; exact hacc) (by omega) (by unfold out1; simp)
      · rw [out1_upd hHD] at this
        exact this
      · unfold out1
        have ne : a ≠ D := fun e => nD (e ▸ ha)
        rw [if_neg ne]
        exact hkeep a ha
end TW
namespace TW
open PySem PySem.Spec PyProof.Rows L2
variable {X : Cx} {g : Gx} {a b c e tg : Expr} {es : List Expr} {pos : Pos} {fa fb fc : En → Sto → R Vv} {fr : En → Sto → R (List Vv)}

/-! ### statements -/
def OutS (g : Gx) (m : Mp) (H : Hp) (E : L2.Ends) : RS → Prop
  | .nx en st => ∀ m' H' σ', Ext m H m' H' → Rel g.K m' st H' → RepE g.K m' H' en σ' → E.nx σ' H'
  | .rt v st => ∀ m' H' w, Ext m H m' H' → Rel g.K m' st H' → RepV g.K m' H' v w → E.rt w H'
  | .bk en st => ∀ m' H' σ', Ext m H m' H' → Rel g.K m' st H' → RepE g.K m' H' en σ' → E.bk σ' H'
  | .ct en st => ∀ m' H' σ', Ext m H m' H' → Rel g.K m' st H' → RepE g.K m' H' en σ' → E.ct σ' H'
  | .exc x en st => ∀ m' H' σ' cls d, Ext m H m' H' → Rel g.K m' st H' → RepE g.K m' H' en σ' → RepX g.K g.mg m' H' x cls d → g.W cls d σ' H'
  | .stuck => False
theorem OutS.ext {m m1 : Mp} {H H1 : Hp} {E : L2.Ends} {r : RS} (e : Ext m H m1 H1) (h : OutS g m H E r) : OutS g m1 H1 E r := by
  cases r with
  | nx en st => exact fun m' H' v q => h m' H' v (e.trans q)
  | rt en st => exact fun m' H' v q => h m' H' v (e.trans q)
  | bk en st => exact fun m' H' v q => h m' H' v (e.trans q)
  | ct en st => exact fun m' H' v q => h m' H' v (e.trans q)
  | exc x en st => exact fun m' H' v c d q => h m' H' v c d (e.trans q)
  | stuck => exact h
def LS (g : Gx) (f : En → Sto → RS) : TS := fun E σ H => ∃ m en st, Rel g.K m st H ∧ RepE g.K m H en σ ∧ OutS g m H E (f en st)
/-- an expression within a statement -/
theorem OutS.go {m : Mp} {H : Hp} {σ : L2.St} {E : L2.Ends} {α β : Type} {rep : Mp → Hp → α → β → Prop} {r : R α} {en : En} {f : α → Sto → RS} {P : β → Hp → Prop} (h : OutS g m H E (r.go en f)) (re : RepE g.K m H en σ)
    (k : ∀ x st m' H' v, r = .ok x st → Ext m H m' H' → Rel g.K m' st H' → rep m' H' x v → OutS g m' H' E (f x st) → P v H') : Out g m H σ rep P r := by
  cases r with
  | ok x st => exact fun m' H' v e l q => k x st m' H' v rfl e l q (OutS.ext e h)
  | exc x st => exact fun m' H' c d e l q => h m' H' σ c d e l (re.ext e) q
  | stuck => exact h
theorem ls_nil : PSs X [] (LS g fun en st => .nx en st) := by
  refine pss_weak pss_nil ?_
  rintro E σ H ⟨m, en, st, rel, re, out⟩
  exact out m H σ .refl rel re
theorem ls_cons {s : Stmt} {ss : List Stmt} {f1 f2 : En → Sto → RS} (h1 : PS X s (LS g f1)) (h2 : PSs X ss (LS g f2)) : PSs X (s :: ss) (LS g fun en st => (f1 en st).seq f2) := by
  refine pss_weak (pss_cons h1 h2) ?_
  rintro E σ H ⟨m, en, st, rel, re, out⟩
  refine ⟨m, en, st, rel, re, ?_⟩
  dsimp only at out
  cases hf : f1 en st with
  | nx en2 st2 =>
    rw [hf] at out
    exact fun m' H' σ' x' l' r' => ⟨m', en2, st2, l', r', OutS.ext x' out⟩
  | rt _ _ => rw [hf] at out; exact out
  | bk _ _ => rw [hf] at out; exact out
  | ct _ _ => rw [hf] at out; exact out
  | exc _ _ _ => rw [hf] at out; exact out
  | stuck => rw [hf] at out; exact out
theorem ls_pass : PS X (.Pass pos) (LS g fun en st => .nx en st) := by
  refine ps_weak ps_pass ?_
  rintro E σ H ⟨m, en, st, rel, re, out⟩
  exact out m H σ .refl rel re
theorem ls_expr (ha : PE X a (LE g fa)) (hs : swapsWith a none pos.line X.env = pure false) : PS X (.Expr a pos) (LS g fun en st => (fa en st).go en fun _ st => .nx en st) := by
  refine ps_weak (ps_expr ha hs) ?_
  rintro E σ H ⟨m, en, st, rel, re, out⟩
  refine ⟨m, en, st, rel, re, OutS.go out re fun x st1 m1 H1 v e1 x1 l1 rx o1 => ?_⟩
  exact o1 m1 H1 σ .refl l1 (re.ext x1)
theorem ls_ret (ha : PE X a (LE g fa)) : PS X (.Return (some a) pos) (LS g fun en st => (fa en st).go en fun v st => .rt v st) := by
  refine ps_weak (ps_ret ha) ?_
  rintro E σ H ⟨m, en, st, rel, re, out⟩
  refine ⟨m, en, st, rel, re, OutS.go out re fun x st1 m1 H1 v e1 x1 l1 rx o1 => ?_⟩
  exact o1 m1 H1 v .refl l1 rx
theorem ls_if {ss ss' : List Stmt} {f1 f2 : En → Sto → RS} (ha : PT X a (LT g (tt fa))) (h1 : PSs X ss (LS g f1)) (h2 : PSs X ss' (LS g f2)) : PS X (.If a ss ss' pos) (LS g fun en st => ((fa en st).bind truV).go en fun k st => if k then f1 en st else f2 en st) := by
  refine ps_weak (ps_if ha h1 h2) ?_
  rintro E σ H ⟨m, en, st, rel, re, out⟩
  refine ⟨m, en, st, rel, re, OutS.go out re fun k st1 m1 H1 v e1 x1 l1 rk o1 => ?_⟩
  subst rk
  cases k with
  | true => exact ⟨m1, en, st1, l1, re.ext x1, o1⟩
  | false => exact ⟨m1, en, st1, l1, re.ext x1, o1⟩
/-- a store -/
theorem OutS.store {m : Mp} {H : Hp} {σ : L2.St} {E : L2.Ends} {r : R En} {en : En} {own : Nat → Prop} {f : En → Sto → RS} {P : L2.St → Hp → Prop} (h : OutS g m H E (r.calm.go en f))
    (k : ∀ en2 st m' H' σ', r = .ok en2 st → Ext m H m' H' → Rel g.K m' st H' → RepE g.K m' H' en2 σ' → OutS g m' H' E (f en2 st) → P σ' H') : OutG g own σ m H P r := by
  cases r with
  | ok x st => exact fun m' H' v e l q _ => k x st m' H' v rfl e l q (OutS.ext e h)
  | exc x st => exact h
  | stuck => exact h
theorem ls_asg_of {s : Stmt} {own : Nat → Prop} {fg : Vv → En → Sto → R En} (h : PS X s (tAsg (LE g fa) (LG g own fg))) : PS X s (LS g fun en st => (fa en st).go en fun v st => (fg v en st).calm.go en fun en st => .nx en st) := by
  refine ps_weak h ?_
  rintro E σ H ⟨m, en, st, rel, re, out⟩
  refine ⟨m, en, st, rel, re, OutS.go out re fun x st1 m1 H1 v e1 x1 l1 rx o1 => ?_⟩
  refine ⟨m1, en, st1, x, l1, re.ext x1, rx, OutS.store o1 fun en2 st2 m2 H2 σ2 e2 x2 l2 r2 o2 => ?_⟩
  exact o2 m2 H2 σ2 .refl l2 r2
theorem ls_asgName_of {s : Stmt} {i : Nat} {t : TE} (h : PS X s (tAsg t (gName i))) (ht : ∀ σ H Q, LE g fa σ H Q → t σ H Q) : PS X s (LS g fun en st => (fa en st).go en fun v st => (R.ok (en.set i (some v)) st).calm.go en fun en st => .nx en st) := by
  refine ps_weak h ?_
  rintro E σ H ⟨m, en, st, rel, re, out⟩
  refine ht _ _ _ ⟨m, en, st, rel, re, OutS.go out re fun x st1 m1 H1 v e1 x1 l1 rx o1 => ?_⟩
  exact o1 m1 H1 _ .refl l1 ((re.ext x1).set rx i)
theorem ip_D (op : Operator) : PIp X op (fun v w H Q => r2 X.K (augD op) v w H Q) := by
  intro pins s σ H x y v u Q I rx ry h
  obtain ⟨m, st, a, b, z, rel, ra, rb, e, q⟩ := h
  unfold augD at e
  split at e
  · cases e
    rw [rep_int ra] at rx
    rw [rep_int rb] at ry
    exact iop_add pins s σ H _ _ v u Q I rx ry ⟨_, _, rfl, rfl, q.int rel⟩
  · split at e <;> cases e
    rename_i hl
    obtain ⟨rfl, l1, o1⟩ := rep_str ra
    obtain ⟨rfl, l2, o2⟩ := rep_str rb
    exact iop_add_str pins s σ H _ _ v u Q I rx ry ⟨_, _, rfl, rfl, hl, q.str rel (by rw [len_append]; exact hl) (strOk_append o1 o2)⟩
  · cases e
    rw [rep_int ra] at rx
    rw [rep_int rb] at ry
    exact iop_sub pins s σ H _ _ v u Q I rx ry ⟨_, _, rfl, rfl, q.int rel⟩
  · cases e
theorem ls_aug (hK : g.K = X.K) {i : Nat} {x : Str} {op : Operator} {p : Pos} (hN : X.N.Nodup) (hi : X.N[i]? = some x) (hx : Loc X.env.scope x) (hf : X.fn x = true ∨ X.env.scope.names.lookup x = some .local) (ha : PE X a (LE g fa)) :
    PS X (.AugAssign (.Name x p) op a pos) (LS g fun en st => match en[i]? with
      | some (some x) => (fa en st).go en fun y st => (op2 (augD op) x y st).go en fun z st => .nx (en.set i (some z)) st
      | _ => .stuck) := by
  refine ps_weak (ps_aug hN hi hx ha (ip_D op) hf) ?_
  rintro E σ H ⟨m, en, st, rel, re, out⟩
  dsimp only at out
  split at out
  · rename_i y hy
    obtain ⟨v, h1, h2⟩ := re.2 _ _ hy
    refine ⟨v, h1, m, en, st, rel, re, OutS.go out re fun z st1 m1 H1 w e1 x1 l1 rz o1 => ?_⟩
    rw [← hK]
    refine out_op2 (g := g) (σ := σ) l1 (h2.ext x1) rz (OutS.go o1 (re.ext x1) fun u st2 m2 H2 w2 e2 x2 l2 ru o2 => ?_)
    exact o2 m2 H2 _ .refl l2 (((re.ext x1).ext x2).set ru i)
  · exact out.elim
theorem ls_for {iter : Expr} {body : List Stmt} {own : Nat → Prop} {fi : En → Sto → R Wl} {fg : Vv → En → Sto → R En} {fs : En → Sto → RS} (hp : PassesOwn (model X.prog X.w) X.A X.env X.xe) (hc : X.calm = true) (hi : PI X tg iter (LI g fi)) (hg : PG X tg (LG g own fg)) (hb : PSs X body (LS g fs))
    (hs : ∀ x, foldedSetIterable iter X.env x = pure x) : PS X (.For tg iter body [] pos) (LS g fun en st => (fi en st).go en fun w st => forLoop w.pins (fun x en st => fg (.d x) en st) fs w.xs en st) := by
  refine ps_weak (ps_for hp hc hi hg hb hs) ?_
  rintro E σ H ⟨m, en, st, rel, re, out⟩
  refine ⟨m, en, st, rel, re, OutS.go out re fun w st1 m1 H1 J e1 x1 l1 wk o1 => ?_⟩
  obtain ⟨xs, ps⟩ := w
  dsimp only at o1
  refine ⟨fun i k σk Hk => k = xs.length - i ∧ i ≤ xs.length ∧ ∃ mk ek sk, Ext m1 H1 mk Hk ∧ Rel g.K mk sk Hk ∧ RepE g.K mk Hk ek σk ∧ OutS g m1 H1 E (forLoop ps (fun x en st => fg (.d x) en st) fs (xs.drop i) ek sk),
    ⟨xs.length, by simp, Nat.zero_le _, m1, en, st1, .refl, l1, re.ext x1, by simpa using o1⟩, ?_⟩
  rintro i k σk Hk ⟨rfl, hi, mk, ek, sk, xk, lk, rk, ok⟩
  by_cases hlt : i < xs.length
  · have hx : xs[i]? = some xs[i] := List.getElem?_eq_getElem hlt
    rw [List.drop_eq_getElem_cons hlt] at ok
    simp only [forLoop] at ok
    split at ok
    case isFalse => exact ok.elim
    rename_i hpin
    refine .inr ⟨wk.go mk Hk sk xk.pre xk.same lk hpin i _ hx, fun σ' H' => ∃ mk ek sk, Ext m1 H1 mk H' ∧ Rel g.K mk sk H' ∧ RepE g.K mk H' ek σ' ∧ OutS g m1 H1 E (forLoop ps (fun x en st => fg (.d x) en st) fs (xs.drop (i + 1)) ek sk),
      fun σ' H' h => ⟨xs.length - (i + 1), by omega, rfl, by omega, h⟩, fun x H' hy => ?_⟩
    obtain ⟨y1, y2, y3⟩ := wk.yld mk Hk sk xk.pre xk.same lk hpin i _ x H' hx hy
    have ok' := OutS.ext (xk.trans y1) ok
    refine ⟨mk, ek, sk, .d xs[i], y2, rk.ext y1, y3, OutS.store ok' fun en2 st2 m2 H2 σ2 e2 x2 l2 r2 o2 => ?_⟩
    refine ⟨m2, en2, st2, l2, r2, ?_⟩
    have xx := (xk.trans y1).trans x2
    rw [e2] at ok
    have ok2 : OutS g m1 H1 E ((fs en2 st2).turn fun en st => forLoop ps (fun x en st => fg (.d x) en st) fs (xs.drop (i + 1)) en st) := ok
    cases hf : fs en2 st2 with
    | nx en3 st3 => rw [hf] at ok2; exact fun m' H' σ' x' l' r' => ⟨m', en3, st3, xx.trans x', l', r', ok2⟩
    | ct en3 st3 => rw [hf] at ok2; exact fun m' H' σ' x' l' r' => ⟨m', en3, st3, xx.trans x', l', r', ok2⟩
    | bk en3 st3 => rw [hf] at ok2; exact fun m' H' σ' x' l' r' => ok2 m' H' σ' (xx.trans x') l' r'
    | rt v st3 => rw [hf] at ok2; exact fun m' H' w x' l' r' => ok2 m' H' w (xx.trans x') l' r'
    | exc z en3 st3 => rw [hf] at ok2; exact fun m' H' σ' c d x' l' r' => ok2 m' H' σ' c d (xx.trans x') l' r'
    | stuck => rw [hf] at ok2; exact ok2
  · have hi2 : i = xs.length := by omega
    subst hi2
    rw [List.drop_length] at ok
    simp only [forLoop] at ok
    split at ok
    case isFalse => exact ok.elim
    rename_i hpin
    exact .inl ⟨wk.stop mk Hk sk xk.pre xk.same lk hpin, ok mk Hk σk xk lk rk⟩

/-! ### a def -/
/-- what a body's end is to the caller: new objects are left to themselves where data alone is told -/
def endF (n : Nat) : RS → R Vv
  | .rt (.d x) st => .ok (.d x) (st.take n)
  | .rt (.ref k) st => if k < n then .ok (.ref k) (st.take n) else .ok (.ref k) st
  | .nx _ st => .ok (.d .non) (st.take n)
  | .exc x _ st => .exc x (st.take n)
  | _ => .stuck
def startE (n : Nat) (vs : List Vv) : En := vs.map some ++ List.replicate (n - vs.length) none
def runF (n : Nat) (f : En → Sto → RS) (vs : List Vv) (st : Sto) : R Vv := endF st.length (f (startE n vs) st)
def spD (K : PySem.W.Frag) (mg : Str → Option Value) (n : Nat) (f : List Vv → Sto → R Vv) : Sp := fun vs H Q E => ∃ m xs st, xs.length = n ∧ Rel K m st H ∧ RepVs K m H xs vs ∧ match f xs st with
  | .ok x st' => ∀ m' H' v, Ext m H m' H' → Rel K m' st' H' → RepV K m' H' x v → Q v H'
  | .exc x st' => ∀ m' H' cls d, Ext m H m' H' → Rel K m' st' H' → RepX K mg m' H' x cls d → E cls d H'
  | .stuck => False
theorem rep_start {K : PySem.W.Frag} {m : Mp} {H : Hp} {N : List Str} : ∀ {xs : List Vv} {vs : List V}, RepVs K m H xs vs → RepE K m H (startE N.length xs) (L2.start N vs) := by
  intro xs vs h
  have hl : xs.length = vs.length := Paired.length h
  unfold startE L2.start
  refine ⟨by simp [hl], fun i x e => ?_⟩
  by_cases hi : i < xs.length
  · rw [List.getElem?_append_left (by simpa using hi), List.getElem?_map] at e
    rw [List.getElem?_append_left (by rw [List.length_map, ← hl]; exact hi), List.getElem?_map]
    cases hx : xs[i]? with
    | none => rw [hx] at e; cases e
    | some y =>
      rw [hx] at e
      have e' : y = x := Option.some.inj (Option.some.inj e)
      subst e'
      have key : ∀ {xs : List Vv} {vs : List V} {i : Nat}, RepVs K m H xs vs → xs[i]? = some y → ∃ v, vs[i]? = some v ∧ RepV K m H y v := by
        intro xs vs i h
        induction h generalizing i with
        | nil => intro z; simp at z
        | cons p q ih =>
          cases i with
          | zero => intro z; simp at z; subst z; exact ⟨_, rfl, p⟩
          | succ j => intro z; simpa using ih (by simpa using z)
      obtain ⟨v, h1, h2⟩ := key h hx
      exact ⟨v, by rw [h1]; rfl, h2⟩
  · rw [List.getElem?_append_right (by simpa using hi)] at e
    rw [List.getElem?_replicate] at e
    split at e <;> cases e
theorem RepX.drop {K : PySem.W.Frag} {mg : Str → Option Value} {m m' : Mp} {H : Hp} {x : Xn} {cls : Value} {d : Option Addr} (h : RepX K mg m' H x cls d) (had : ∃ t, m'.ad = m.ad ++ t) (hh : m'.hid = m.hid) : RepX K mg m H x cls d := by
  obtain ⟨t, ht⟩ := had
  have sm : Same (hm m' H) (hm m H) := fun a u h => by
    obtain ⟨h1, h2⟩ := hm_some.mp h
    exact hm_some.mpr ⟨⟨fun z => h1.1 (by rw [ht]; exact List.mem_append_left _ z), by rw [← hh]; exact h1.2⟩, h2⟩
  refine ⟨h.1, ?_⟩
  have h2 := h.2
  cases d with
  | none => exact h2
  | some a =>
    obtain ⟨vs, e1, e2, e3⟩ := h2
    exact ⟨vs, e1, ⟨fun z => e2.1 (by rw [ht]; exact List.mem_append_left _ z), by rw [← hh]; exact e2.2⟩, e3.mono sm⟩
/-- a body's reading from its def's promise -/
theorem body_of {K : PySem.W.Frag} {mg : Str → Option Value} {N : List Str} {k : Nat} {f : En → Sto → RS} {vs : List V} {H : Hp} {Q : VK} {E : XK} (h : spD K mg k (runF N.length f) vs H Q E) :
    LS ⟨K, mg, fun cls d _ H => E cls d H⟩ f { nx := fun _ H' => Q .non H', rt := Q } (L2.start N vs) H := by
  obtain ⟨m, xs, st, hl, rel, rx, h⟩ := h
  refine ⟨m, startE N.length xs, st, rel, rep_start rx, ?_⟩
  unfold runF at h
  cases hf : f (startE N.length xs) st with
  | nx en2 st2 =>
    rw [hf] at h
    intro m' H' σ' x' l' r'
    obtain ⟨r1, x1⟩ := rel.drop l' x'
    exact h m H' .non x1 r1 (by simp only [RepV, RepD])
  | rt v st2 =>
    rw [hf] at h
    intro m' H' w x' l' r'
    cases v with
    | d y =>
      obtain ⟨r1, x1⟩ := rel.drop l' x'
      refine h m H' w x1 r1 ?_
      obtain ⟨t, ht⟩ := x'.pre
      refine RepD.mono (fun a u z => ?_) _ _ r'
      obtain ⟨z1, z2⟩ := hm_some.mp z
      exact hm_some.mpr ⟨⟨fun q => z1.1 (by rw [ht]; exact List.mem_append_left _ q), by rw [← x'.hid]; exact z1.2⟩, z2⟩
    | ref n =>
      simp only [endF] at h
      by_cases hn : n < st.length
      · rw [if_pos hn] at h
        obtain ⟨r1, x1⟩ := rel.drop l' x'
        refine h m H' w x1 r1 ?_
        obtain ⟨p, hp, hw⟩ := r'
        obtain ⟨t, ht⟩ := x'.pre
        refine ⟨p, ?_, hw⟩
        rw [ht, List.getElem?_append_left (by rw [rel.len]; exact hn)] at hp
        exact hp
      · rw [if_neg hn] at h
        exact h m' H' w x' l' r'
  | bk _ _ => rw [hf] at h; exact h.elim
  | ct _ _ => rw [hf] at h; exact h.elim
  | exc z en2 st2 =>
    rw [hf] at h
    intro m' H' σ' cls d x' l' _ r'
    obtain ⟨r1, x1⟩ := rel.drop l' x'
    exact h m H' cls d x1 r1 (r'.drop x'.pre x'.hid)
  | stuck => rw [hf] at h; exact h
/-- a call by a def's promise -/
theorem sp_call {m : Mp} {H : Hp} {σ : L2.St} {Q : VK} {n : Nat} {f : List Vv → Sto → R Vv} {xs : List Vv} {st : Sto} {vs : List V} (rel : Rel g.K m st H) (rx : RepVs g.K m H xs vs) (hn : xs.length = n) (h : Out g m H σ (RepV g.K) Q (f xs st)) : spD g.K g.mg n f vs H Q (fun cls d H => g.W cls d σ H) := by
  refine ⟨m, xs, st, hn, rel, rx, ?_⟩
  cases hf : f xs st with
  | ok x st' => rw [hf] at h; exact h
  | exc x st' => rw [hf] at h; exact h
  | stuck => rw [hf] at h; exact h
end TW
namespace TW
open PySem PySem.Spec PyProof.Rows L2
/-! ### enumerate over a tuple -/
def ItE (K : PySem.W.Frag) (q : Addr) : L2.It where
  go i H := ∃ vs v, SqT K H q vs ∧ vs[i]? = some v
  yld i H y H' := ∃ T v, y = .ref T ∧ H T = none ∧ H' = upd H T (.tup [.int (i : Nat), v]) ∧ ∀ vs, SqT K H q vs → vs[i]? = some v
  stop i H := ∃ vs, SqT K H q vs ∧ vs.length = i
theorem turnE {P : Program} {w : World} {K : PySem.W.Frag} {el : List Expr} {kk : Nat} {tp : Pos} (q en it : Addr) :
    Turn P w K (.Tuple el kk tp) (ItE K q) [en, it] en (fun i h => (∃ old, IsEnum h en it ((i : Nat) : Int) old) ∧ h.IsTupleIter it q i ∧ en ≠ it ∧ q ≠ it ∧ en ≠ q) where
  mem := by simp
  obj := fun i h st b hb => by
    obtain ⟨⟨old, he⟩, ⟨o, ho, hc, hd⟩, _⟩ := st
    rcases (show b = en ∨ b = it by simpa using hb) with rfl | rfl
    · exact ⟨_, he, fun v z => nomatch z⟩
    · exact ⟨o, ho, fun v z => by rw [hd] at z; cases z⟩
  keep := fun i h h' st k => let ⟨⟨old, he⟩, hi, r⟩ := st; ⟨⟨old, k en (by simp) _ he⟩, hi.at fun o z => k it (by simp) o z, r⟩
  item := by
    intro X hP hw hK hc i pins s σ H E I hf st hg
    subst hP hw hK
    obtain ⟨⟨old, he⟩, hit, hne, hqi, heq⟩ := st
    obtain ⟨vs, v, hq, hv⟩ := hg
    obtain ⟨its, rv, tp, hz⟩ := I.tuple hq
    obtain ⟨u, hu, ru⟩ := rv.get hv
    have n1 : en < s.heap.objs.size := Heap.lt_size he
    have n2 : it < s.heap.objs.size := by obtain ⟨_, z, _⟩ := hit; exact Heap.lt_size z
    have hh : X.A.in1.handled = none := I.ok.hd hc
    have hlt : i < its.toArray.size := by
      have := (List.getElem?_eq_some_iff.mp hu).1
      simpa using this
    refine wpAny_pyNext_enum_itemD (Draws.tuple hh it q hqi its.toArray) he ⟨hit, tp⟩ hlt hne (by simp [hne, heq]) fun x h' tk hx ho hst hT hsz hk => ?_
    have hx' : u = x := by
      rw [List.getElem?_toArray, hu] at hx
      exact Option.some.inj hx
    subst hx'
    refine ⟨_, rfl, wpAny_letOwnedTupleGo_enum (s := { s with heap := h', toks := tk + 1 }) ho fun h2 he2 sb => ?_⟩
    have hT2 := (sb.2 _ (Nat.ne_of_gt n1)).trans hT
    have new : ObjOk X.prog X.w (upd H s.heap.objs.size (.tup [.int (i : Nat), v])) h2 s.heap.objs.size (.tup [.int (i : Nat), v]) :=
      ⟨by show 2 ≤ sizeLine; decide, [.int i tk, u], .cons ⟨_, rfl⟩ (.cons ru .nil), ⟨_, hT2, rfl, _, rfl⟩⟩
    have I1 := I.turnedNew (t' := tk + 1) (ch := [en, it]) (h' := h2) (fun b ob hb z => (sb.2 b (fun y => hb (by simp [y]))).trans (hk b ob (fun y => hb (by simp [y])) (fun y => hb (by simp [y])) z)) hf (Nat.le_refl _) new
    refine ⟨.ref s.heap.objs.size, _, I1, rfl, ⟨_, v, rfl, I.hok.fresh (Nat.le_refl _), rfl, fun ys hy => by rw [I.tuple_inj hy hq]; exact hv⟩, ⟨⟨u, ?_⟩, hst.1.at fun o z => (sb.2 it (Ne.symm hne)).trans z, hne, hqi, heq⟩, fun b hb => ?_⟩
    · rw [show ((i + 1 : Nat) : Int) = (i : Int) + 1 by omega]; exact he2
    · have hb' : b < s.heap.objs.size := by
        rcases (show b = en ∨ b = it by simpa using hb) with rfl | rfl
        · exact n1
        · exact n2
      rw [upd_ne (Nat.ne_of_lt hb')]
      exact (hf b hb).1
  done := by
    intro X hP hw hK hc i pins s σ H E I hf st hg
    subst hP hw hK
    obtain ⟨⟨old, he⟩, hit, hne, hqi, heq⟩ := st
    obtain ⟨vs, hq, hv⟩ := hg
    obtain ⟨its, rv, tp, hz⟩ := I.tuple hq
    obtain ⟨f0, f1, f2, f3, f4, f5⟩ := hf it (by simp)
    have hh : X.A.in1.handled = none := I.ok.hd hc
    have hl : its.toArray.size = i := by rw [List.size_toArray, ← rv.length]; exact hv
    subst hl
    exact wpAny_pyNext_enum_endD (Draws.tuple hh it q hqi its.toArray) he ⟨hit, tp⟩ fun h' eb => ⟨rfl, I.turned (t' := s.toks) (fun b o hb z => eb b o hb z) f0 f1 f3 f4 f5⟩
  self := fun A i s Q E st h => let ⟨⟨_, he⟩, _⟩ := st; wpAny_pyIter_enum he h
/-- enumerate(v) of whatever begins -/
theorem enum1_meets {v : Value} {ob : Obj} {HH : Heap → Prop} (BB : Begins v ob HH) :
    Meets (Builtin.«enumerate.__new__» ⟨[.type "enumerate", v], []⟩) (fun _ RR ss => HH ss.heap ∧
      RR (.ok (.ret (.ref (ss.heap.push ob).objs.size))) { ss with heap := (ss.heap.push ob).push { cls := .type "enumerate", data := .fields #[.none, .bool false, .ref ss.heap.objs.size, rawInt 0, .none, .none] } }) :=
  .of_wp fun pr ww AA RR ss hy => by
    obtain ⟨hp, g, d, tk, os⟩ := ss
    obtain ⟨hy1, hy2⟩ := hy
    have sb := sub_enumerate
    have go : ∀ {A' : Around} {E : Value → Shared → Prop} {Q : Value → Shared → Prop}, Q (.ref hp.objs.size) ⟨hp.push ob, g, d, tk, os⟩ → wpAny (model pr ww) A' (pyIter v) Q E ⟨hp, g, d, tk, os⟩ :=
      fun z => BB.iter pr ww _ _ ⟨hp, g, d, tk, os⟩ _ hy1 z
    wp_walk using go
    refine wpAny_stack_any fun sk => wpAny_pure ?_
    split
    · rename_i cc _ _ _ _ _
      cases (cc == Value.type "enumerate") <;> (wp_walk using go; exact ⟨_, rfl, hy2⟩)
    · wp_walk using go; exact ⟨_, rfl, hy2⟩
theorem enum1_begins {prog : Program} {w : World} {A : Around} {E : Value → Shared → Prop} {s : Shared} {v : Value} {ob : Obj} {HH : Heap → Prop} {Q : Value → Shared → Prop} (BB : Begins v ob HH) (h1 : HH s.heap)
    (k : ∀ h', IsEnum h' (s.heap.objs.size + 1) s.heap.objs.size 0 .none → h'.get? s.heap.objs.size = some ob → (∀ b o, s.heap.get? b = some o → h'.get? b = some o) → Q (.ref (s.heap.objs.size + 1)) { s with heap := h' }) :
    wpAny (model prog w) A (call (.type "enumerate") [v]) Q E s := by
  refine callType_new PySem.F.called_enumerate (by decide) (PySem.F.typeCall_enumerate_1 _) (PySem.F.newCall_enumerate_1 _) (fun z => PySem.F.args_object_init_2 z _) PySem.F.entry_enumerate_new (enum1_meets BB) ⟨h1, ?_⟩
  have sz : (s.heap.push ob).objs.size = s.heap.objs.size + 1 := Heap.size_push ..
  show _ ∧ _
  rw [sz]
  have en : IsEnum ((s.heap.push ob).push { cls := .type "enumerate", data := .fields #[.none, .bool false, .ref s.heap.objs.size, rawInt 0, .none, .none] }) (s.heap.objs.size + 1) s.heap.objs.size 0 .none := by
    have z := Heap.get?_push_size (s.heap.push ob) (o := { cls := .type "enumerate", data := .fields #[.none, .bool false, .ref s.heap.objs.size, rawInt 0, .none, .none] }) rfl
    rw [sz] at z
    exact z
  exact ⟨⟨_, en, rfl⟩, k _ en (Heap.get?_push_of_some _ (Heap.get?_push_size _ BB.free)) fun b o x => Heap.get?_push_of_some _ (Heap.get?_push_of_some _ x)⟩
def iE (K : PySem.W.Frag) (ta : TA) : TI := fun σ H R => ta σ H fun vs H1 => ∃ q xs, vs = [.ref q] ∧ SqT K H1 q xs ∧ R (ItE K q) H1
theorem pi_enumT {X : Cx} {e : Expr} {ta : TA} {p pos tp : Pos} {el : List Expr} {kk : Nat} (hg : Gl X "enumerate") (hm : X.mg "enumerate" = none) (ha : PA X [e] ta) (hs : starEach [e] X.env = [(false, eval e X.env)]) :
    PI X (.Tuple el kk tp) (.Call (.Name "enumerate" p) [e] [] pos) (iE X.K ta) := by
  refine ⟨fun pins s σ H R I h => ?_⟩
  refine Call_ (ld_blt I hg hm boot_enumerate (callWith_type1 (thn (ha.run pos pins s σ H _ I h) fun us s1 ⟨vs, H1, I1, r1, q1⟩ => ?_) hs rfl))
  obtain ⟨q, xs, rfl, hq, q1⟩ := q1
  obtain ⟨u, rfl, ru⟩ := vals1 r1
  cases ru
  obtain ⟨its, rv, tu, hz⟩ := I1.tuple hq
  have ql : q < s1.heap.objs.size := tu.lt
  refine enum1_begins (begins_tuple q its.toArray) tu fun h' hen hit hk => wpAny_pyIter_enum hen ?_
  have I2 := I1.kept (h' := h') (t' := s1.toks) hk
  refine ⟨s1.heap.objs.size + 1, [s1.heap.objs.size + 1, s1.heap.objs.size], _, _, H1, rfl, I2, turnE q (s1.heap.objs.size + 1) s1.heap.objs.size, ⟨⟨.none, hen⟩, ⟨_, hit, rfl, rfl⟩, Nat.succ_ne_self _, Nat.ne_of_lt ql, Ne.symm (Nat.ne_of_lt (Nat.lt_succ_of_lt ql))⟩, fun b hb => ?_, q1⟩
  have hle : s1.heap.objs.size ≤ b := by
    rcases (show b = s1.heap.objs.size + 1 ∨ b = s1.heap.objs.size by simpa using hb) with z | z
    · rw [z]; exact Nat.le_add_right _ _
    · rw [z]; exact Nat.le_refl _
  exact I1.fpOk hle (I1.hok.fresh hle)
theorem pair_rep {K : PySem.W.Frag} {m : Mp} {H : Hp} {st : Sto} {a b : D} {v w : V} {T : Addr} (rel : Rel K m st H) (ha : RepD K (hm m H) a v) (hb : RepD K (hm m H) b w) (n : H T = none) :
    Ext m H m (upd H T (.tup [v, w])) ∧ Rel K m st (upd H T (.tup [v, w])) ∧ RepD K (hm m (upd H T (.tup [v, w]))) (.tup [a, b]) (.ref T) := by
  refine ⟨rel.ext_fresh n, rel.fresh n, ?_⟩
  simp only [RepD]
  exact ⟨T, [v, w], rfl, .inl (.inl (hm_some.mpr ⟨rel.fresh_ne n, upd_same⟩)), by simp [sizeLine_eq], .cons (RepD.mono (hm_upd n) _ _ ha) (.cons (RepD.mono (hm_upd n) _ _ hb) .nil)⟩
theorem wk_enumT {K : PySem.W.Frag} {m0 : Mp} {H0 : Hp} {p : Addr} {ds : List D} {vs : List V} (h : SqT K (hm m0 H0) p vs) (r : RepDs K (hm m0 H0) ds vs) : Wk K m0 H0 ⟨enumD 0 ds, []⟩ (ItE K p) where
  stop m H st _ x _ _ := ⟨vs, same_tup hm_same (same_tup x h), by rw [enumD_len]; exact r.length.symm⟩
  go m H st _ x _ _ i d hd := by
    obtain ⟨y, e1, _⟩ := enumD_get 0 ds i d hd
    obtain ⟨v, e, _⟩ := r.get e1
    exact ⟨vs, v, same_tup hm_same (same_tup x h), e⟩
  yld m H st _ x rel _ i d y H' hd hy := by
    obtain ⟨z, e1, rfl⟩ := enumD_get 0 ds i d hd
    obtain ⟨T, v, rfl, n, rfl, hv⟩ := hy
    obtain ⟨v', e, rv⟩ := r.get e1
    have := hv vs (same_tup hm_same (same_tup x h))
    rw [e] at this
    cases this
    refine pair_rep rel ?_ (RepD.mono x _ _ rv) n
    simp only [RepD, Nat.zero_add]
theorem wk_enumL {K : PySem.W.Frag} {m0 : Mp} {H0 : Hp} {p : Addr} {ds : List D} {vs : List V} (h : SqL K (hm m0 H0) p vs) (r : RepDs K (hm m0 H0) ds vs) : Wk K m0 H0 ⟨enumD 0 ds, []⟩ (Ite K p) where
  stop m H st _ x _ _ := ⟨vs, hm_same.seq (x.seq h), by rw [enumD_len]; exact Nat.le_of_eq r.length.symm⟩
  go m H st _ x _ _ i d hd := by
    obtain ⟨y, e1, _⟩ := enumD_get 0 ds i d hd
    obtain ⟨v, e, _⟩ := r.get e1
    exact ⟨vs, v, hm_same.seq (x.seq h), e⟩
  yld m H st _ x rel _ i d y H' hd hy := by
    obtain ⟨z, e1, rfl⟩ := enumD_get 0 ds i d hd
    obtain ⟨T, v, rfl, n, rfl, hv⟩ := hy
    obtain ⟨v', e, rv⟩ := r.get e1
    have := hv vs (hm_same.seq (x.seq h))
    rw [e] at this
    cases this
    refine pair_rep rel ?_ (RepD.mono x _ _ rv) n
    simp only [RepD, Nat.zero_add]
theorem wk_enumP {K : PySem.W.Frag} {m0 : Mp} {H0 : Hp} {p : Addr} {ds : List D} {n : Nat} (hp : m0.ad[n]? = some p) : Wk K m0 H0 ⟨enumD 0 ds, [(n, ds)]⟩ (Ite K p) where
  stop m H st t x rel k := by
    obtain ⟨vs, h1, h2⟩ := pin_rep hp t rel k
    exact ⟨vs, sql_of h1, by rw [enumD_len]; exact Nat.le_of_eq h2.length.symm⟩
  go m H st t x rel k i d hd := by
    obtain ⟨vs, h1, h2⟩ := pin_rep hp t rel k
    obtain ⟨y, e1, _⟩ := enumD_get 0 ds i d hd
    obtain ⟨v, e, _⟩ := h2.get e1
    exact ⟨vs, v, sql_of h1, e⟩
  yld m H st t x rel k i d y H' hd hy := by
    obtain ⟨vs, h1, h2⟩ := pin_rep hp t rel k
    obtain ⟨z, e1, rfl⟩ := enumD_get 0 ds i d hd
    obtain ⟨T, v, rfl, n, rfl, hv⟩ := hy
    obtain ⟨v', e, rv⟩ := h2.get e1
    have := hv vs (sql_of h1)
    rw [e] at this
    cases this
    refine pair_rep rel ?_ rv n
    simp only [RepD, Nat.zero_add]
variable {X : Cx} {g : Gx} {a : Expr} {pos : Pos} {fa : En → Sto → R Vv}
theorem li_enum (hK : g.K = X.K) {p tp : Pos} {el : List Expr} {kk : Nat} (hg : Gl X "enumerate") (hm : X.mg "enumerate" = none) (ha : PA X [a] (LA g fun en st => (fa en st).bind fun x st => .ok [x] st)) (hs : noStar a = true) :
    PI X (.Tuple el kk tp) (.Call (.Name "enumerate" p) [a] [] pos) (LI g fun en st => (fa en st).bind kEn) := by
  refine ⟨fun pins s σ H R I h => ?_⟩
  have pl := (pi_enum (elts := el) (kk := kk) (tpos := tp) (p := p) (pos := pos) hg hm ha (star_cons hs X.env)).run pins s σ H R I
  have pt := (pi_enumT (el := el) (kk := kk) (tp := tp) (p := p) (pos := pos) hg hm ha (star_cons hs X.env)).run pins s σ H R I
  obtain ⟨m, en, st, rel, re, out⟩ := h
  dsimp only at out
  cases hf : fa en st with
  | stuck => rw [hf] at out; exact out.elim
  | exc x st1 =>
    refine pl ⟨m, en, st, rel, re, ?_⟩
    rw [hf] at out
    dsimp only
    rw [hf]
    exact out
  | ok x st1 =>
    rw [hf, bind_ok] at out
    unfold kEn at out
    split at out
    · refine pl ⟨m, en, st, rel, re, ?_⟩
      dsimp only
      rw [hf]
      intro m' H' v x' l' r'
      obtain ⟨w, rfl, rw'⟩ := p1 r'
      simp only [RepV, RepD] at rw'
      obtain ⟨p', vs, rfl, q1, _, q2⟩ := rw'
      rw [← hK]
      exact ⟨p', vs, rfl, hm_same.seq q1, out m' H' _ x' l' (wk_enumL q1 q2)⟩
    · refine pt ⟨m, en, st, rel, re, ?_⟩
      dsimp only
      rw [hf]
      intro m' H' v x' l' r'
      obtain ⟨w, rfl, rw'⟩ := p1 r'
      simp only [RepV, RepD] at rw'
      obtain ⟨p', vs, rfl, q1, _, q2⟩ := rw'
      rw [← hK]
      exact ⟨p', vs, rfl, same_tup hm_same q1, out m' H' _ x' l' (wk_enumT q1 q2)⟩
    · rename_i n
      split at out
      · rename_i xs hx
        refine pl ⟨m, en, st, rel, re, ?_⟩
        dsimp only
        rw [hf]
        intro m' H' v x' l' r'
        obtain ⟨w, rfl, rw'⟩ := p1 r'
        obtain ⟨p', q1, rfl⟩ := rw'
        obtain ⟨u, h1, h2⟩ := l'.get n _ p' hx q1
        obtain ⟨vs, rfl, h3, _⟩ := h2
        rw [← hK]
        exact ⟨p', vs, rfl, sql_of h1, out m' H' _ x' l' (wk_enumP q1)⟩
      · exact out.elim
    · exact out.elim
/-! ### while -/
theorem ls_while {c : Expr} {body : List Stmt} {fc : En → Sto → R Vv} {fb : En → Sto → RS} (n : Nat) (hp : PassesOwn (model X.prog X.w) X.A X.env X.xe) (hc : PT X c (LT g (tt fc))) (hb : PSs X body (LS g fb)) :
    PS X (.While c body [] pos) (LS g fun en st => whLoop (fun en st => (fc en st).bind truV) fb n en st) := by
  refine ps_weak (ps_while hp hc hb) ?_
  rintro E σ H ⟨m, en, st, rel, re, out⟩
  refine ⟨fun k σk Hk => ∃ mk ek sk, Ext m H mk Hk ∧ Rel g.K mk sk Hk ∧ RepE g.K mk Hk ek σk ∧ OutS g m H E (whLoop (fun en st => (fc en st).bind truV) fb k ek sk), ⟨n, m, en, st, .refl, rel, re, out⟩, ?_⟩
  rintro k σk Hk ⟨mk, ek, sk, xk, lk, rk, ok⟩
  cases k with
  | zero => exact ok.elim
  | succ k =>
    simp only [whLoop] at ok
    refine ⟨mk, ek, sk, lk, rk, OutS.go (OutS.ext xk ok) rk fun b st1 m1 H1 v e1 x1 l1 rb o1 => ?_⟩
    subst rb
    have xx := xk.trans x1
    cases b with
    | false => exact o1 m1 H1 σk .refl l1 (rk.ext x1)
    | true =>
      have e1' : (fc ek sk).bind truV = .ok true st1 := e1
      rw [e1'] at ok
      have ok2 : OutS g m H E ((fb ek st1).turn fun en st => whLoop (fun en st => (fc en st).bind truV) fb k en st) := ok
      refine ⟨fun σ' H' => ∃ mk ek sk, Ext m H mk H' ∧ Rel g.K mk sk H' ∧ RepE g.K mk H' ek σ' ∧ OutS g m H E (whLoop (fun en st => (fc en st).bind truV) fb k ek sk), fun σ' H' hh => ⟨k, Nat.lt_succ_self k, hh⟩, m1, ek, st1, l1, rk.ext x1, ?_⟩
      cases hf : fb ek st1 with
      | nx en3 st3 => rw [hf] at ok2; exact fun m' H' σ' x' l' r' => ⟨m', en3, st3, xx.trans x', l', r', ok2⟩
      | ct en3 st3 => rw [hf] at ok2; exact fun m' H' σ' x' l' r' => ⟨m', en3, st3, xx.trans x', l', r', ok2⟩
      | bk en3 st3 => rw [hf] at ok2; exact fun m' H' σ' x' l' r' => ok2 m' H' σ' (xx.trans x') l' r'
      | rt v st3 => rw [hf] at ok2; exact fun m' H' w x' l' r' => ok2 m' H' w (xx.trans x') l' r'
      | exc z en3 st3 => rw [hf] at ok2; exact fun m' H' σ' c d x' l' r' => ok2 m' H' σ' c d (xx.trans x') l' r'
      | stuck => rw [hf] at ok2; exact ok2
/-! ### a, b = x, y -/
theorem ls_par2 {s : Stmt} {i j : Nat} {fr : En → Sto → R (List Vv)} (hl : ∀ en st xs st', fr en st = .ok xs st' → xs.length = 2) (h : PS X s (tPar i j (LA g fr))) : PS X s (LS g fun en st => (fr en st).go en fun vs st => match setAll [i, j] vs en with | some en => .nx en st | none => .stuck) := by
  refine ps_weak h ?_
  rintro E σ H ⟨m, en, st, rel, re, out⟩
  refine ⟨m, en, st, rel, re, OutS.go out re fun xs st1 m1 H1 vs e1 x1 l1 rx o1 => ?_⟩
  have := hl _ _ _ _ e1
  match xs, this, rx, o1 with
  | [a, b], _, rx, o1 =>
    obtain ⟨v, w, rfl, rv, rw'⟩ := p2 rx
    exact ⟨v, w, rfl, o1 m1 H1 _ .refl l1 (((re.ext x1).set rv i).set rw' j)⟩
theorem ls_par3 {s : Stmt} {i j l : Nat} {fr : En → Sto → R (List Vv)} (hl : ∀ en st xs st', fr en st = .ok xs st' → xs.length = 3) (h : PS X s (tPar3 i j l (LA g fr))) : PS X s (LS g fun en st => (fr en st).go en fun vs st => match setAll [i, j, l] vs en with | some en => .nx en st | none => .stuck) := by
  refine ps_weak h ?_
  rintro E σ H ⟨m, en, st, rel, re, out⟩
  refine ⟨m, en, st, rel, re, OutS.go out re fun xs st1 m1 H1 vs e1 x1 l1 rx o1 => ?_⟩
  have := hl _ _ _ _ e1
  match xs, this, rx, o1 with
  | [a, b, c], _, .cons rv (.cons rw' (.cons ru .nil)), o1 =>
    exact ⟨_, _, _, rfl, o1 m1 H1 _ .refl l1 ((((re.ext x1).set rv i).set rw' j).set ru l)⟩
def isNm : Expr → Bool
  | .Name _ _ => true
  | _ => false
theorem fm_lt {α β : Type} {f : α → Option β} {x : α} (hx : f x = none) : ∀ {l : List α}, x ∈ l → (l.filterMap f).length < l.length
  | [], h => by cases h
  | y :: l, h => by
    have le := List.length_filterMap_le f l
    rcases List.mem_cons.mp h with rfl | h
    · rw [List.filterMap_cons, hx]
      exact Nat.lt_succ_of_le le
    · have := fm_lt hx h
      rw [List.filterMap_cons]
      split <;> simp only [List.length_cons] <;> omega
/-- where no stores are exchanged -/
def swNone : Expr → Expr → Bool
  | .Tuple ts _ _, .Tuple vs _ _ => !(ts.length == 2 || ts.length == 3) || vs.length != ts.length || !ts.all isNm
  | .List _ _, _ => false
  | _, .Tuple _ _ _ => true
  | _, _ => true
theorem swNone_ok {tg e : Expr} (h : swNone tg e = true) (env : Env) : swappedStores [tg] e env = pure none := by
  by_cases ht : ∃ ts k p, tg = .Tuple ts k p
  · obtain ⟨ts, k, p, rfl⟩ := ht
    by_cases hv : ∃ vs k p, e = .Tuple vs k p
    · obtain ⟨vs, k', p', rfl⟩ := hv
      simp only [swNone, Bool.or_eq_true] at h
      unfold swappedStores
      simp only
      rcases h with h | h
      · have : (!(ts.length == 2 || ts.length == 3) || vs.length != ts.length || env.blockKind != .function) = true := by
          rw [Bool.or_eq_true, Bool.or_eq_true]
          exact .inl h
        rw [if_pos this]
      · obtain ⟨t, ht, hn⟩ : ∃ t ∈ ts, isNm t = false := by simpa using h
        split
        · rfl
        · split
          · rfl
          · have lt : ∀ f : Expr → Option Str, f t = none → (ts.filterMap f).length < ts.length := fun f hf => fm_lt hf ht
            rw [if_pos]
            rw [Bool.or_eq_true]
            left
            refine bne_iff_ne.mpr (Nat.ne_of_lt (lt _ ?_))
            cases t <;> first | rfl | cases hn
    · cases e <;> first | rfl | exact absurd ⟨_, _, _, rfl⟩ hv
  · cases tg <;> first | exact absurd ⟨_, _, _, rfl⟩ ht | (cases h; done) | (cases e <;> rfl)
theorem sw2_ok {x y : Str} {px py : Pos} {kt k2 : Nat} {pt pt2 : Pos} {a b : Expr} {env : Env} (hk : env.scope.kind = .function) (hx : env.scope.names.lookup x = some .local) (hy : env.scope.names.lookup y = some .local) (hl : (py.line == px.line) = true) (hne : x ≠ y)
    (ha : noStar a = true) (hb : noStar b = true) (hf : [a, b].all (foldedForSure 8) = false) (hc : [a, b].all (constantsAlone 8) = false) :
    swappedStores [.Tuple [.Name x px, .Name y py] kt pt] (.Tuple [a, b] k2 pt2) env = pure (some [x, y]) := by
  have bk : env.blockKind = .function := by unfold Env.blockKind; rw [hk]; rfl
  have kx : env.kindOf x = some .local := hx
  have ky : env.kindOf y = some .local := hy
  have st : ([a, b].any fun | .Starred .. => true | _ => false) = false := by
    cases a <;> cases b <;> first | rfl | (cases ha; done) | (cases hb; done)
  have hd : ([x, y] : List Str).eraseDups.length = 2 := by
    have : (y == x) = false := by simpa using Ne.symm hne
    simp [List.eraseDups_cons, this]
  unfold swappedStores
  simp only [List.length_cons, List.length_nil, bk, List.head?_cons, Option.map_some, Option.getD_some, Expr.pos, List.filterMap_cons, List.filterMap_nil, kx, ky, hl]
  rw [if_neg (by decide)]
  refine Eq.trans (if_neg (fun h => Bool.false_ne_true (st.symm.trans h))) ?_
  simp only [beq_self_eq_true, Bool.and_self, if_true, hd, List.length_cons, List.length_nil]
  rw [if_neg (by decide), if_neg (by rw [hf]; decide), if_neg (by rw [hc]; decide)]
theorem sw3_ok {x y z : Str} {px py pz : Pos} {kt k2 : Nat} {pt pt2 : Pos} {a b c : Expr} {env : Env} (hk : env.scope.kind = .function) (hx : env.scope.names.lookup x = some .local) (hy : env.scope.names.lookup y = some .local) (hz : env.scope.names.lookup z = some .local) (hl : (py.line == px.line) = true) (hl2 : (pz.line == px.line) = true) (hxy : x ≠ y) (hxz : x ≠ z) (hyz : y ≠ z)
    (ha : noStar a = true) (hb : noStar b = true) (hcs : noStar c = true) (hf : [a, b, c].all (foldedForSure 8) = false) (hc : [a, b, c].all (constantsAlone 8) = false) :
    swappedStores [.Tuple [.Name x px, .Name y py, .Name z pz] kt pt] (.Tuple [a, b, c] k2 pt2) env = pure (some [x, y, z]) := by
  have bk : env.blockKind = .function := by unfold Env.blockKind; rw [hk]; rfl
  have kx : env.kindOf x = some .local := hx
  have ky : env.kindOf y = some .local := hy
  have kz : env.kindOf z = some .local := hz
  have ns : ∀ {e : Expr}, noStar e = true → (match e with | .Starred .. => true | _ => false) = false := by
    intro e h
    cases e <;> first | rfl | cases h
  have st : ([a, b, c].any fun | .Starred .. => true | _ => false) = false := by
    simp only [List.any_cons, List.any_nil, Bool.or_false]
    rw [ns ha, ns hb, ns hcs]
    rfl
  have hd : ([x, y, z] : List Str).eraseDups.length = 3 := by
    have h1 : (y == x) = false := by simpa using Ne.symm hxy
    have h2 : (z == x) = false := by simpa using Ne.symm hxz
    have h3 : (z == y) = false := by simpa using Ne.symm hyz
    simp [List.eraseDups_cons, h1, h2, h3]
  unfold swappedStores
  simp only [List.length_cons, List.length_nil, bk, List.head?_cons, Option.map_some, Option.getD_some, Expr.pos, List.filterMap_cons, List.filterMap_nil, kx, ky, kz, hl, hl2]
  rw [if_neg (by decide)]
  refine Eq.trans (if_neg (fun h => Bool.false_ne_true (st.symm.trans h))) ?_
  simp only [beq_self_eq_true, Bool.and_self, if_true, hd, List.length_cons, List.length_nil]
  rw [if_neg (by decide), if_neg (by rw [hf]; decide), if_neg (by rw [hc]; decide)]
end TW
namespace TW
open PySem PySem.Spec PyProof.Rows L2
/-! ### dict displays -/
variable {X : Cx} {g : Gx} {pos : Pos}
def prs : List ((En → Sto → R Vv) × (En → Sto → R Vv)) → En → Sto → R (List Vv)
  | [], _, st => .ok [] st
  | (fk, fv) :: r, en, st => (fk en st).bind fun x st => (fv en st).bind fun y st => (prs r en st).bind fun xs st => .ok (x :: y :: xs) st
def pairUp : List V → List (V × V)
  | x :: y :: r => (x, y) :: pairUp r
  | _ => []
theorem prs_read {en : En} {σ : L2.St} : ∀ {fs : List ((En → Sto → R Vv) × (En → Sto → R Vv))} {m1 : Mp} {H1 : Hp} {st1 st2 : Sto} {vs : List Vv} {Q : List (V × V) → Hp → Prop}, prs fs en st1 = .ok vs st2 → Rel g.K m1 st1 H1 → RepE g.K m1 H1 en σ →
    (∀ m2 H2 ws, Ext m1 H1 m2 H2 → Rel g.K m2 st2 H2 → RepVs g.K m2 H2 vs ws → Q (pairUp ws) H2) → tPairs (fs.map fun f => (LE g f.1, LE g f.2)) σ H1 Q
  | [], m1, H1, st1, st2, vs, Q, e, rel, re, k => by
    simp only [prs, R.ok.injEq] at e
    obtain ⟨rfl, rfl⟩ := e
    exact k m1 H1 [] .refl rel .nil
  | (fk, fv) :: r, m1, H1, st1, st2, vs, Q, e, rel, re, k => by
    simp only [prs] at e
    cases hk : fk en st1 with
    | exc _ _ => rw [hk] at e; cases e
    | stuck => rw [hk] at e; cases e
    | ok x s1 =>
      rw [hk, bind_ok] at e
      cases hv : fv en s1 with
      | exc _ _ => rw [hv] at e; cases e
      | stuck => rw [hv] at e; cases e
      | ok y s2 =>
        rw [hv, bind_ok] at e
        cases hr : prs r en s2 with
        | exc _ _ => rw [hr] at e; cases e
        | stuck => rw [hr] at e; cases e
        | ok xs s3 =>
          rw [hr, bind_ok] at e
          cases e
          refine ⟨m1, en, st1, rel, re, ?_⟩
          show Out _ _ _ _ _ _ (fk en st1)
          rw [hk]
          intro m2 H2 v x2 l2 rx
          refine ⟨m2, en, s1, l2, re.ext x2, ?_⟩
          show Out _ _ _ _ _ _ (fv en s1)
          rw [hv]
          intro m3 H3 w x3 l3 ry
          refine prs_read hr l3 ((re.ext x2).ext x3) fun m4 H4 ws x4 l4 rs => ?_
          exact k m4 H4 (v :: w :: ws) ((x2.trans x3).trans x4) l4 (.cons ((rx.ext x3).ext x4) (.cons (ry.ext x4) rs))
theorem mkDct_rep {K : PySem.W.Frag} {H : Hp} : ∀ {ds : List D} {ws : List V} {ks : List Key} {xs : List D}, RepDs K H ds ws → mkDct ds = some (ks, xs) → ∃ vs, RepDs K H xs vs ∧ ks.length = vs.length ∧ pairUp ws = (ks.zip vs).map (fun kv => (kV kv.1, kv.2)) ∧ ks.Nodup
  | [], ws, ks, xs, r, e => by
    simp only [mkDct, Option.some.injEq, Prod.mk.injEq] at e
    obtain ⟨rfl, rfl⟩ := e
    simp only [RepDs] at r
    subst r
    exact ⟨[], .nil, rfl, rfl, .nil⟩
  | [_], ws, ks, xs, r, e => by simp [mkDct] at e
  | k :: v :: ds, ws, ks, xs, r, e => by
    obtain ⟨u, r1, rfl, ru, r2⟩ := r.uncons
    obtain ⟨w, r3, rfl, rw', r4⟩ := r2.uncons
    unfold mkDct at e
    split at e
    · rename_i k' ks' vs' hk hm
      split at e <;> cases e
      rename_i hn
      obtain ⟨zs, q1, q2, q3, q4⟩ := mkDct_rep r4 hm
      have hu : u = kV k' := by
        cases k <;> simp only [keyOf] at hk <;> cases hk
        · simp only [RepD] at ru; exact ru
        · simp only [RepD] at ru; exact ru.1
      subst hu
      refine ⟨w :: zs, .cons rw' q1, by simp [q2], by simp [pairUp, q3], List.nodup_cons.mpr ⟨fun hmem => hn ?_, q4⟩⟩
      rw [List.any_eq_true]
      exact ⟨k', hmem, by simp⟩
    · cases e
theorem merge_new : ∀ (kvs acc : List (Key × V)), (acc.map (·.1) ++ kvs.map (·.1)).Nodup → mergeK acc kvs = acc ++ kvs
  | [], acc, _ => by simp [mergeK]
  | (k, v) :: r, acc, h => by
    have hk : valV acc k = none := by
      cases q : valV acc k with
      | none => rfl
      | some z =>
        exfalso
        have : (acc.any fun kv => decide (kv.1 = k)) = true := by rw [valV_any, q]; rfl
        obtain ⟨p, hp, e⟩ := List.any_eq_true.mp this
        have e := of_decide_eq_true e
        have d := (List.nodup_append.mp h).2.2
        exact d k (List.mem_map.mpr ⟨p, hp, e⟩) k (by simp) rfl
    show mergeK (putK acc k v) r = _
    rw [putK_new v hk, merge_new r (acc ++ [(k, v)]) (by simpa using h)]
    simp
theorem le_disp {keys : List (Option Expr)} {values : List Expr} {fs : List ((En → Sto → R Vv) × (En → Sto → R Vv))} (h : PPs X pos keys values (fs.map fun f => (LE g f.1, LE g f.2))) (hall : keys.all (·.isSome) = true) (hl : keys.length = values.length) (h0 : keys ≠ []) (h15 : keys.length ≤ 15) :
    PE X (.Dict keys values pos) (LE g fun en st => (prs fs en st).calm.bind kDcd) := by
  refine pe_weak (pe_disp h hall hl h0 h15) ?_
  rintro σ H Q ⟨m, en, st, rel, re, out⟩
  intro p np
  dsimp only at out
  cases hp : prs fs en st with
  | exc _ _ => rw [hp] at out; exact out.elim
  | stuck => rw [hp] at out; exact out.elim
  | ok vs st2 =>
    rw [hp] at out
    obtain ⟨r1, r2⟩ := rel.hide (o := .dK []) np
    have nh := rel.fresh_ne np
    have re1 : RepE g.K ⟨m.ad, p :: m.hid⟩ (upd H p (.dK [])) en σ := re.sub ⟨[], by simp⟩ (by rw [r2]; exact .refl _)
    refine prs_read hp r1 re1 fun m2 H2 ws x2 l2 rs => ?_
    have hD : H2 p = some (.dK []) := by rw [x2.keep p (by simp)]; exact upd_same
    refine ⟨hD, ?_⟩
    have out : Out g m H σ (RepV g.K) Q (kDcd vs st2) := out
    unfold kDcd at out
    split at out
    · rename_i ds hds
      split at out
      · rename_i ks xs hk
        split at out
        · rename_i hle
          obtain ⟨zs, q1, q2, q3, q4⟩ := mkDct_rep (pures_rep hds rs) hk
          refine ⟨ks.zip zs, q3, by rw [List.length_zip]; omega, ?_⟩
          have hmg : mergeK [] (ks.zip zs) = ks.zip zs := by
            rw [merge_new _ _ (by
              simp only [List.map_nil, List.nil_append]
              rw [List.map_fst_zip (by omega)]
              exact q4)]
            rfl
          rw [hmg]
          have eh : m2.hid = p :: m.hid := x2.hid
          have em : m2 = ⟨m2.ad, p :: m.hid⟩ := by rw [← eh]
          rw [em] at l2 q1
          obtain ⟨s1, s2⟩ := Rel.show (m := ⟨m2.ad, m.hid⟩) l2 nh.2
          have n1 : out1 H2 p p = none := by unfold out1; simp
          have l3 := s1.fresh (o := .dK (ks.zip zs)) n1
          have e3 := s1.ext_fresh (o := .dK (ks.zip zs)) n1
          have eu : upd (out1 H2 p) p (.dK (ks.zip zs)) = upd H2 p (.dK (ks.zip zs)) := by
            funext b
            by_cases hb : b = p
            · subst hb; rw [upd_same, upd_same]
            · rw [upd_ne hb, upd_ne hb]; unfold out1; rw [if_neg hb]
          rw [eu] at l3 e3
          have sm : Same (hm m H) (hm ⟨m2.ad, m.hid⟩ (out1 H2 p)) := by
            rw [s2, ← r2]
            have := x2.same
            rw [em] at this
            exact this
          refine out ⟨m2.ad, m.hid⟩ (upd H2 p (.dK (ks.zip zs))) (.ref p) ⟨x2.pre, rfl, fun a ha => ?_, sm.trans e3.same⟩ l3 ?_
          · have ne : a ≠ p := fun e => nh.2 (e ▸ ha)
            rw [upd_ne ne, x2.keep a (List.mem_cons_of_mem _ ha), upd_ne ne]
          · simp only [RepV, RepD]
            refine ⟨p, zs, rfl, hm_some.mpr ⟨s1.fresh_ne n1, upd_same⟩, q2, ?_⟩
            rw [← s2] at q1
            exact q1.mono e3.same
        · exact out.elim
      · exact out.elim
    · exact out.elim
end TW
namespace TW
open PySem PySem.Spec PyProof.Rows L2
/-! ### zip of two rows, strict or not -/
def ZO (q : Bool) (h : Heap) (z TI TO : Addr) (f0 : Value) : Prop :=
  h.get? z = some { cls := .type "zip", dict := none, data := .fields #[f0, .bool false, .bool q, .ref TI, .ref TO], slots := #[] }
section
variable {prog : Program} {w : World} {A : Around} {E : Value → Shared → Prop} {s : Shared} {it : Addr} {fp : List Addr} {n i : Nat} {P : Nat → Value → Prop} {St : Nat → Heap → Prop}
theorem draw_one (D : Draws prog w A it fp n P St) {Q : Option Value → Shared → Prop} (hi : i < n) (st : St i s.heap) (k : ∀ x h' tk, P i x → St (i + 1) h' → Heap.SameBut it s.heap h' → Q (some x) { s with heap := h', toks := tk }) :
    wpAny (model prog w) A (Builtin.SmallTypes.nextOrEnd (.ref it)) Q E s := by
  unfold Builtin.SmallTypes.nextOrEnd
  exact wpAny_bind (wpAny_attempt (D.item i s _ _ hi st fun x h' tk a b c => wpAny_pure (k x h' tk a b c)))
theorem draw_none (D : Draws prog w A it fp n P St) {Q : Option Value → Shared → Prop} (st : St n s.heap) (k : ∀ h', Heap.ExtBut it s.heap h' → Q none { s with heap := h' }) :
    wpAny (model prog w) A (Builtin.SmallTypes.nextOrEnd (.ref it)) Q E s := by
  unfold Builtin.SmallTypes.nextOrEnd
  refine wpAny_bind (wpAny_attempt (D.done s _ _ st fun h' e he ho => ?_))
  obtain ⟨o, h1, h2⟩ := ho
  exact wpAny_bind (wpAny_isInstance (T := "StopIteration") (b := true) ⟨o, h1, h2⟩ isSubtype_stop (wpAny_pure (k h' he)))
end
section
variable {prog : Program} {w : World} {A : Around} {E : Value → Shared → Prop} {s : Shared} {z TI TO i1 i2 : Addr} {fp1 fp2 : List Addr} {n1 n2 i : Nat} {P1 P2 : Nat → Value → Prop} {St1 St2 : Nat → Heap → Prop} {a1 a2 : Value}
theorem zipT_item {Q : Value → Shared → Prop} (S : ZipSep2 z TI TO i1 i2 fp1 fp2) (D1 : Draws prog w A i1 fp1 n1 P1 St1) (D2 : Draws prog w A i2 fp2 n2 P2 St2)
    (zo : ZO true s.heap z TI TO .none) (ti : IsTupOf2 s.heap TI (.ref i1) (.ref i2)) (to : IsTupOf2 s.heap TO a1 a2) (t1 : St1 i s.heap) (t2 : St2 i s.heap) (l1 : i < n1) (l2 : i < n2)
    (k : ∀ x y h' tk, P1 i x → P2 i y → ZO true h' z TI TO (rawInt s.heap.objs.size) → IsTupOf2 h' TO x y → St1 (i + 1) h' → St2 (i + 1) h' → IsTupOf2 h' s.heap.objs.size x y →
      (∀ c o, c ≠ z → c ≠ TO → c ≠ i1 → c ≠ i2 → s.heap.get? c = some o → h'.get? c = some o) → Q (.ref s.heap.objs.size) { s with heap := h', toks := tk }) :
    wpAny (model prog w) A (Builtin.«zip.__next__» ⟨[.ref z], []⟩) (fun fin s' => ∃ v, fin = .done (.ret v) ∧ Q v s') E s := by
  obtain ⟨b0, ge, dr, tk, os⟩ := s
  unfold ZO at zo
  show wpAny _ _ (field (.ref z) 2 >>= _) _ _ _
  refine wpAny_bind (wpAny_field zo rfl (x := .bool true) rfl ?_)
  show wpAny _ _ (field (.ref z) 3 >>= _) _ _ _
  refine wpAny_bind (wpAny_field zo rfl (x := .ref TI) rfl (wpAny_bind (wpAny_seqItems ti rfl ?_)))
  show wpAny _ _ (Builtin.SmallTypes.ownedTupleIsFree (.ref z) >>= _) _ _ _
  unfold Builtin.SmallTypes.ownedTupleIsFree
  refine wpAny_bind (wpAny_bind (wpAny_field zo rfl (x := .none) rfl (wpAny_pure ?_)))
  rw [if_pos rfl]
  refine wpAny_bind (wpAny_rule (wpAny_bind (wpAny_field zo rfl (x := .ref TO) rfl (wpAny_bind (wpAny_setField_rec zo (by simp) fun b1 z1 e1 => wpAny_bind ?_)))))
  have e1 : Heap.SameBut z b0 b1 := e1
  have z1 : ZO true b1 z TI TO .ellipsis := z1
  simp only [List.zipIdx_cons, List.zipIdx_nil, List.forIn_cons, List.forIn_nil]
  refine wpAny_bind (wpAny_bind (wpAny_onRaise (draw_one (s := ⟨b1, ge, dr, tk, os⟩) D1 l1 (D1.over t1 e1 S.zf1) fun x b2 tk1 px u1 e2 => ?_)))
  have e2 : Heap.SameBut i1 b1 b2 := e2
  have o2 : IsTupOf2 b2 TO a1 a2 := e2.extBut _ _ S.Ti1 (e1.extBut _ _ S.TOz to)
  refine wpAny_bind (wpAny_seqItems (s := ⟨b2, ge, dr, tk1, os⟩) o2 rfl (wpAny_bind (updateSeq_IsTupOf2 (s := ⟨b2, ge, dr, tk1, os⟩) o2 fun b3 o3 e3 => wpAny_bind (wpAny_letGo (wpAny_pure ?_)))))
  have o3 : IsTupOf2 b3 TO x a2 := o3
  have e3 : Heap.SameBut TO b2 b3 := e3
  refine wpAny_bind (wpAny_bind (wpAny_onRaise (draw_one (s := ⟨b3, ge, dr, tk1, os⟩) D2 l2 (D2.over (D2.over (D2.over t2 e1 S.zf2) e2 S.sep1_2) e3 S.Tf2) fun y b4 tk2 py u2 e4 => ?_)))
  have e4 : Heap.SameBut i2 b3 b4 := e4
  have o4 : IsTupOf2 b4 TO x a2 := e4.extBut _ _ S.Ti2 o3
  refine wpAny_bind (wpAny_seqItems (s := ⟨b4, ge, dr, tk2, os⟩) o4 rfl (wpAny_bind (updateSeq_IsTupOf2 (s := ⟨b4, ge, dr, tk2, os⟩) o4 fun b5 o5 e5 => wpAny_bind (wpAny_letGo (wpAny_pure (wpAny_pure ?_))))))
  have o5 : IsTupOf2 b5 TO x y := o5
  have e5 : Heap.SameBut TO b4 b5 := e5
  refine wpAny_bind (wpAny_seqItems (s := ⟨b5, ge, dr, tk2, os⟩) o5 rfl (wpAny_bind (wpAny_newTuple ?_)))
  have sz : b5.objs.size = b0.objs.size := by rw [e5.1, e4.1, e3.1, e2.1, e1.1]
  have z5 : ZO true b5 z TI TO .ellipsis := e5.extBut _ _ S.TOz.symm (e4.extBut _ _ S.zi2 (e3.extBut _ _ S.TOz.symm (e2.extBut _ _ S.zi1 z1)))
  have st5 : ∀ c o, c ≠ z → c ≠ TO → c ≠ i1 → c ≠ i2 → b0.get? c = some o → b5.get? c = some o := fun c o p q r t g =>
    e5.extBut _ _ q (e4.extBut _ _ t (e3.extBut _ _ q (e2.extBut _ _ r (e1.extBut _ _ p g))))
  have v1 : St1 (i + 1) b5 := D1.over (D1.over (D1.over u1 e3 S.Tf1) e4 S.sep2_1) e5 S.Tf1
  have v2 : St2 (i + 1) b5 := D2.over u2 e5 S.Tf2
  have zl : z < b5.objs.size := Heap.lt_size z5
  show wpAny _ _ (Builtin.SmallTypes.ownedTupleHandOut (.ref z) (.ref b5.objs.size) >>= _) _ _ ⟨b5.push { cls := .type "tuple", data := .seq #[x, y] }, ge, dr, tk2, os⟩
  unfold Builtin.SmallTypes.ownedTupleHandOut
  have z6 : ZO true (b5.push { cls := .type "tuple", data := .seq #[x, y] }) z TI TO .ellipsis := Heap.get?_push_of_some _ z5
  refine wpAny_bind (wpAny_bind (wpAny_setField_rec z6 (by simp) fun b7 z7 e7 => ?_))
  have z7 : ZO true b7 z TI TO (rawInt b5.objs.size) := z7
  refine wpAny_setField_rec z7 (by simp) fun b8 z8 e8 => wpAny_pure ⟨_, rfl, ?_⟩
  have z8 : ZO true b8 z TI TO (rawInt b5.objs.size) := z8
  have lift : ∀ c o, c ≠ z → b5.get? c = some o → b8.get? c = some o := fun c o p g => e8.extBut _ _ p (e7.extBut _ _ p (Heap.get?_push_of_some _ g))
  have nw : IsTupOf2 b8 b5.objs.size x y := e8.extBut _ _ (Nat.ne_of_gt zl) (e7.extBut _ _ (Nat.ne_of_gt zl) (Heap.get?_push_size _ rfl))
  show Q (.ref b5.objs.size) ⟨b8, ge, dr, tk2, os⟩
  rw [sz] at z8 nw ⊢
  refine k x y b8 tk2 px py z8 (lift _ _ S.TOz o5) (D1.frame _ _ _ v1 fun b hb o g => lift b o (fun q => S.zf1 (q ▸ hb)) g) (D2.frame _ _ _ v2 fun b hb o g => lift b o (fun q => S.zf2 (q ▸ hb)) g) nw fun c o p q r t g => lift c o p (st5 c o p q r t g)
/-- both at their ends -/
theorem zipT_end {Q : Fin → Shared → Prop} (hh : A.handled = none) (S : ZipSep2 z TI TO i1 i2 fp1 fp2) (D1 : Draws prog w A i1 fp1 n1 P1 St1) (D2 : Draws prog w A i2 fp2 n2 P2 St2)
    (zo : ZO true s.heap z TI TO .none) (ti : IsTupOf2 s.heap TI (.ref i1) (.ref i2)) (t1 : St1 n1 s.heap) (t2 : St2 n2 s.heap)
    (k : ∀ h' e, (∀ c o, c ≠ z → c ≠ i1 → c ≠ i2 → s.heap.get? c = some o → h'.get? c = some o) → (∃ o, h'.get? e = some o ∧ o.cls = .type "StopIteration") → E (.ref e) { s with heap := h' }) :
    wpAny (model prog w) A (Builtin.«zip.__next__» ⟨[.ref z], []⟩) Q E s := by
  obtain ⟨b0, ge, dr, tk, os⟩ := s
  unfold ZO at zo
  show wpAny _ _ (field (.ref z) 2 >>= _) _ _ _
  refine wpAny_bind (wpAny_field zo rfl (x := .bool true) rfl ?_)
  show wpAny _ _ (field (.ref z) 3 >>= _) _ _ _
  refine wpAny_bind (wpAny_field zo rfl (x := .ref TI) rfl (wpAny_bind (wpAny_seqItems ti rfl ?_)))
  show wpAny _ _ (Builtin.SmallTypes.ownedTupleIsFree (.ref z) >>= _) _ _ _
  unfold Builtin.SmallTypes.ownedTupleIsFree
  refine wpAny_bind (wpAny_bind (wpAny_field zo rfl (x := .none) rfl (wpAny_pure ?_)))
  rw [if_pos rfl]
  refine wpAny_bind (wpAny_rule (wpAny_bind (wpAny_field zo rfl (x := .ref TO) rfl (wpAny_bind (wpAny_setField_rec zo (by simp) fun b1 z1 e1 => wpAny_bind ?_)))))
  have e1 : Heap.SameBut z b0 b1 := e1
  have z1 : ZO true b1 z TI TO .ellipsis := z1
  simp only [List.zipIdx_cons, List.zipIdx_nil, List.forIn_cons, List.forIn_nil]
  refine wpAny_bind (wpAny_bind (wpAny_onRaise (draw_none (s := ⟨b1, ge, dr, tk, os⟩) D1 (D1.over t1 e1 S.zf1) fun b2 e2 => ?_)))
  have e2 : Heap.ExtBut i1 b1 b2 := e2
  have z2 : ZO true b2 z TI TO .ellipsis := e2 _ _ S.zi1 z1
  refine wpAny_bind (wpAny_setField_rec (s := ⟨b2, ge, dr, tk, os⟩) z2 (by simp) fun b3 z3 e3 => ?_)
  have e3 : Heap.SameBut z b2 b3 := e3
  have up3 : ∀ c o, c ≠ z → c ≠ i1 → b0.get? c = some o → b3.get? c = some o := fun c o p q g => e3.extBut _ _ p (e2 _ _ q (e1.extBut _ _ p g))
  have v2 : St2 n2 b3 := D2.frame _ _ _ t2 fun b hb o g => up3 b o (fun q => S.zf2 (q ▸ hb)) (fun q => S.sep1_2 (q ▸ hb)) g
  refine wpAny_bind ?_
  show wpAny _ _ ((forIn (m := Sem) (List.zipIdx [Value.ref i2] 1) PUnit.unit _) >>= _) _ _ _
  simp only [List.zipIdx_cons, List.zipIdx_nil, List.forIn_cons, List.forIn_nil]
  refine wpAny_bind (wpAny_bind (wpAny_bind (draw_none (s := ⟨b3, ge, dr, tk, os⟩) D2 v2 fun b4 e4 => ?_)))
  have e4 : Heap.ExtBut i2 b3 b4 := e4
  rw [if_neg (by simp)]
  refine wpAny_pure (wpAny_pure (wpAny_bind (wpAny_rule ?_)))
  unfold Builtin.SmallTypes.stopIteration
  refine wpAny_bind ?_
  simp only [newExc, newTuple]
  refine wpAny_bind (wpAny_newObj_type ?_ (by size_fits))
  refine wpAny_bind (m := firstArgMember _ _) (wpAny_of_eq (a := Value.none) (by first | rfl | (simp only [firstArgMember]; rfl)) (wpAny_newObj_type ?_ (by size_fits)))
  simp only [raiseNew]
  refine wpAny_bind (wpAny_handled ?_)
  rw [hh]
  refine wpAny_bind (wpAny_pure (wpAny_throw ?_))
  exact k _ _ (fun c o p q r g => Heap.get?_push_of_some _ (Heap.get?_push_of_some _ (e4 _ _ r (up3 c o p q g)))) ⟨_, Heap.get?_push_size _ rfl, rfl⟩
end
section
variable {prog : Program} {w : World} {A : Around} {E : Value → Shared → Prop} {s : Shared} {z TI TO i1 i2 : Addr} {fp1 fp2 : List Addr} {n1 n2 i : Nat} {P1 P2 : Nat → Value → Prop} {St1 St2 : Nat → Heap → Prop} {a1 a2 : Value}
/-- the next pair, or the end, strict or not -/
theorem zip_next_item {q : Bool} {Q : Option Value → Shared → Prop} (S : ZipSep2 z TI TO i1 i2 fp1 fp2) (D1 : Draws prog w A.in1 i1 fp1 n1 P1 St1) (D2 : Draws prog w A.in1 i2 fp2 n2 P2 St2)
    (zo : ZO q s.heap z TI TO .none) (ti : IsTupOf2 s.heap TI (.ref i1) (.ref i2)) (to : IsTupOf2 s.heap TO a1 a2) (t1 : St1 i s.heap) (t2 : St2 i s.heap) (l1 : i < n1) (l2 : i < n2)
    (k : ∀ x y h' tk, P1 i x → P2 i y → ZO q h' z TI TO (rawInt s.heap.objs.size) → IsTupOf2 h' TO x y → St1 (i + 1) h' → St2 (i + 1) h' → IsTupOf2 h' s.heap.objs.size x y →
      (∀ c o, c ≠ z → c ≠ TO → c ≠ i1 → c ≠ i2 → s.heap.get? c = some o → h'.get? c = some o) → Q (some (.ref s.heap.objs.size)) { s with heap := h', toks := tk }) :
    wpAny (model prog w) A (pyNext (.ref z)) Q E s := by
  cases q with
  | false => exact wpAny_pyNext_zipD2_item S D1 D2 zo ti to t1 t2 l1 l2 fun x y h' tk p1 p2 z' o' u1 u2 nw _ kp => k x y h' tk p1 p2 z' o' u1 u2 nw kp
  | true =>
    have ty : s.TypeIs (.ref z) "zip" := ⟨_, zo, rfl⟩
    unfold pyNext
    refine wpAny_bind (wpAny_attempt (wpAny_callSpecial?_slot (name := Str.ofString "__next__") ty F.slot_zip_next (wpAny_call_entry F.slot_zip_next ty F.entry_zip_next ?_ (F.args_zip_next_1 _))))
    exact zipT_item S D1 D2 zo ti to t1 t2 l1 l2 fun x y h' tk p1 p2 z' o' u1 u2 nw kp => wpAny_pure (k x y h' tk p1 p2 z' o' u1 u2 nw kp)
theorem zip_next_end {q : Bool} {Q : Option Value → Shared → Prop} (hh : A.in1.handled = none) (S : ZipSep2 z TI TO i1 i2 fp1 fp2) (D1 : Draws prog w A.in1 i1 fp1 n1 P1 St1) (D2 : Draws prog w A.in1 i2 fp2 n2 P2 St2)
    (zo : ZO q s.heap z TI TO .none) (ti : IsTupOf2 s.heap TI (.ref i1) (.ref i2)) (to : IsTupOf2 s.heap TO a1 a2) (t1 : St1 i s.heap) (t2 : St2 i s.heap) (l1 : i ≤ n1) (l2 : i ≤ n2) (le : if q = true then i = n1 ∧ i = n2 else i = n1 ∨ i = n2)
    (k : ∀ h' tk, (∀ c o, c ≠ z → c ≠ TO → c ≠ i1 → c ≠ i2 → s.heap.get? c = some o → h'.get? c = some o) → Q none { s with heap := h', toks := tk }) : wpAny (model prog w) A (pyNext (.ref z)) Q E s := by
  cases q with
  | false => exact wpAny_pyNext_zipD2_end S D1 D2 zo ti to t1 t2 l1 l2 (by simpa using le) k
  | true =>
    obtain ⟨rfl, rfl⟩ : i = n1 ∧ i = n2 := by simpa using le
    have ty : s.TypeIs (.ref z) "zip" := ⟨_, zo, rfl⟩
    unfold pyNext
    refine wpAny_bind (wpAny_attempt (wpAny_callSpecial?_slot (name := Str.ofString "__next__") ty F.slot_zip_next (wpAny_call_entry F.slot_zip_next ty F.entry_zip_next ?_ (F.args_zip_next_1 _))))
    refine zipT_end hh S D1 D2 zo ti t1 t2 fun h' e kp ho => ?_
    obtain ⟨o, h1, h2⟩ := ho
    exact wpAny_bind (wpAny_isInstance (T := "StopIteration") (b := true) ⟨o, h1, h2⟩ isSubtype_stop (wpAny_pure (k h' s.toks fun c o p _ r t g => kp c o p r t g)))
theorem zip_let {q : Bool} {el : List Expr} {x1} {pos : Pos} {T : Addr} {Q : Unit → Shared → Prop} (zo : ZO q s.heap z TI TO (rawInt T)) (k : ∀ h', ZO q h' z TI TO .none → Heap.SameBut z s.heap h' → Q () { s with heap := h' }) :
    wpAny (model prog w) A (letOwnedTupleGo (.Tuple el x1 pos) (.ref z) (.ref T)) Q E s := by
  unfold letOwnedTupleGo ZO at *
  refine wpAny_bind (wpAny_load zo ?_)
  dsimp only
  rw [if_pos (by simp)]
  refine wpAny_bind (wpAny_rule ?_)
  exact wpAny_setField_rec zo (by simp) k
theorem zip_self {q : Bool} {f0 : Value} {Q : Value → Shared → Prop} (zo : ZO q s.heap z TI TO f0) (h : Q (.ref z) s) : wpAny (model prog w) A (pyIter (.ref z)) Q E s := by
  have ty : s.TypeIs (.ref z) "zip" := ⟨_, zo, rfl⟩
  refine wpAny_pyIter_slot ty F.slot_zip_iter (wpAny_call_entry F.slot_zip_iter ty F.entry_zip_iter ?_ (F.args_zip_iter_1 _))
  exact wpAny_pure ⟨_, rfl, "zip", _, ty, F.slot_zip_next.lookup, h⟩
end
/-! rows of either kind: true a tuple, false a list -/
def itSt (k : Bool) (h : Heap) (it a : Addr) (i : Nat) : Prop := match k with | true => h.IsTupleIter it a i | false => h.IsListIter it a i
def sqK (k : Bool) (K : PySem.W.Frag) (H : Hp) (a : Addr) (xs : List V) : Prop := match k with | true => SqT K H a xs | false => SqL K H a xs
def obK (k : Bool) (h : Heap) (a : Addr) (its : Array Value) : Prop := match k with | true => h.IsTuple a its | false => h.IsList a its
theorem drawK {prog : Program} {w : World} {A : Around} (k : Bool) (hh : A.handled = none) (it a : Addr) (ne : a ≠ it) (its : Array Value) : Draws prog w A it [it, a] its.size (fun i v => its[i]? = some v) (fun i h => itSt k h it a i ∧ obK k h a its) := by
  cases k
  · exact Draws.list hh it a ne its
  · exact Draws.tuple hh it a ne its
theorem itSt.obj {k : Bool} {h : Heap} {it a : Addr} {i : Nat} (t : itSt k h it a i) : ∃ o, h.get? it = some o ∧ ∀ v, o.data ≠ .cell v := by
  cases k <;> (obtain ⟨o, ho, _, hd⟩ := t; exact ⟨o, ho, fun v z => by rw [hd] at z; cases z⟩)
theorem itSt.at {k : Bool} {h h' : Heap} {it a : Addr} {i : Nat} (t : itSt k h it a i) (e : ∀ o, h.get? it = some o → h'.get? it = some o) : itSt k h' it a i := by
  cases k
  · exact Heap.IsListIter.at t e
  · exact Heap.IsTupleIter.at t e
theorem inv_sq {X : Cx} {pins : List (Addr × Obj)} {σ : L2.St} {H : Hp} {s : Shared} (I : Inv X pins σ H s) {k : Bool} {a : Addr} {xs : List V} (h : sqK k X.K H a xs) : ∃ its : List Value, Vals xs its ∧ obK k s.heap a its.toArray ∧ a < s.heap.objs.size := by
  cases k
  · obtain ⟨its, rv, p, _⟩ := I.list h
    exact ⟨its, rv, p.isList, p.lt⟩
  · obtain ⟨its, rv, p, _⟩ := I.tuple h
    exact ⟨its, rv, p, p.lt⟩
theorem sq_inj {X : Cx} {pins : List (Addr × Obj)} {σ : L2.St} {H : Hp} {s : Shared} (I : Inv X pins σ H s) {k : Bool} {a : Addr} {xs ys : List V} (h : sqK k X.K H a xs) (g : sqK k X.K H a ys) : xs = ys := by
  cases k
  · exact I.list_inj h g
  · exact I.tuple_inj h g
theorem vals_back {xs : List V} {us : List Value} (r : Vals xs us) {i : Nat} {v : Value} (e : us[i]? = some v) : ∃ x, xs[i]? = some x ∧ RelV x v := by
  induction r generalizing i with
  | nil => simp at e
  | cons h t ih =>
    cases i with
    | zero => simp at e; subst e; exact ⟨_, rfl, h⟩
    | succ i => simp at e; simpa using ih e
/-! a row of a zip: a list, a tuple, a text -/
inductive Rw where
  | lst (a : Addr) | tup (a : Addr) | txt (s : Str)
def Rw.v : Rw → V
  | .lst a => .ref a | .tup a => .ref a | .txt s => .str s
def Rw.fp (it : Addr) : Rw → List Addr
  | .lst a => [it, a] | .tup a => [it, a] | .txt _ => [it]
def Rw.lt (n : Nat) : Rw → Prop
  | .lst a => a < n | .tup a => a < n | .txt _ => True
def itR (h : Heap) (it : Addr) (i : Nat) : Rw → Prop
  | .lst a => h.IsListIter it a i | .tup a => h.IsTupleIter it a i | .txt s => ∃ t, h.IsStrIter it (strIterType s) s t i
def sqR (K : PySem.W.Frag) (H : Hp) : Rw → List V → Prop
  | .lst a, xs => SqL K H a xs
  | .tup a, xs => SqT K H a xs
  | .txt s, xs => xs = s.cps.toList.map fun c => V.str ⟨#[c]⟩
def obR (h : Heap) (its : Array Value) : Rw → Prop
  | .lst a => h.IsList a its | .tup a => h.IsTuple a its | .txt s => its.size = s.cps.size
def pR (its : Array Value) : Rw → Nat → Value → Prop
  | .lst _, i, v => its[i]? = some v
  | .tup _, i, v => its[i]? = some v
  | .txt s, i, v => ∃ c u, s.cps[i]? = some c ∧ v = .str ⟨#[c]⟩ u
theorem draw_ex {prog : Program} {w : World} {A : Around} {it : Addr} {fp : List Addr} {n : Nat} {P : Nat → Value → Prop} {St : Tok → Nat → Heap → Prop} {c : Prop} (D : ∀ t, Draws prog w A it fp n P (St t)) : Draws prog w A it fp n P (fun i h => (∃ t, St t i h) ∧ c) where
  live := fun i h st => let ⟨⟨t, z⟩, _⟩ := st; (D t).live i h z
  frame := fun i h h' st k => let ⟨⟨t, z⟩, y⟩ := st; ⟨⟨t, (D t).frame i h h' z k⟩, y⟩
  item := fun i s Q E hi st k => let ⟨⟨t, z⟩, y⟩ := st; (D t).item i s Q E hi z fun x h' tk a b c => k x h' tk a ⟨⟨t, b⟩, y⟩ c
  done := fun s Q E st k => let ⟨⟨t, z⟩, _⟩ := st; (D t).done s Q E z k
theorem drawR {prog : Program} {w : World} {A : Around} (r : Rw) (hh : A.handled = none) (it : Addr) (lt : ∀ a, r = .lst a ∨ r = .tup a → a ≠ it) (its : Array Value) (hs : ∀ s, r = .txt s → its.size = s.cps.size) : Draws prog w A it (r.fp it) its.size (pR its r) (fun i h => itR h it i r ∧ obR h its r) := by
  cases r with
  | lst a => exact Draws.list hh it a (lt a (.inl rfl)) its
  | tup a => exact Draws.tuple hh it a (lt a (.inr rfl)) its
  | txt s =>
    have e := hs s rfl
    show Draws prog w A it [it] its.size (fun i v => ∃ c u, s.cps[i]? = some c ∧ v = .str ⟨#[c]⟩ u) (fun i h => (∃ t, h.IsStrIter it (strIterType s) s t i) ∧ its.size = s.cps.size)
    rw [e]
    unfold strIterType
    split
    · exact draw_ex fun t => Draws.strAscii hh it s t
    · exact draw_ex fun t => Draws.strWide hh it s t
theorem itR.obj {h : Heap} {it : Addr} {i : Nat} {r : Rw} (t : itR h it i r) : ∃ o, h.get? it = some o ∧ ∀ v, o.data ≠ .cell v := by
  cases r with
  | lst a => obtain ⟨o, ho, _, hd⟩ := t; exact ⟨o, ho, fun v z => by rw [hd] at z; cases z⟩
  | tup a => obtain ⟨o, ho, _, hd⟩ := t; exact ⟨o, ho, fun v z => by rw [hd] at z; cases z⟩
  | txt s => obtain ⟨t, o, ho, _, hd⟩ := t; exact ⟨o, ho, fun v z => by rw [hd] at z; cases z⟩
theorem itR.at {h h' : Heap} {it : Addr} {i : Nat} {r : Rw} (t : itR h it i r) (e : ∀ o, h.get? it = some o → h'.get? it = some o) : itR h' it i r := by
  cases r with
  | lst a => exact Heap.IsListIter.at t e
  | tup a => exact Heap.IsTupleIter.at t e
  | txt s => obtain ⟨t, o, ho, x⟩ := t; exact ⟨t, o, e o ho, x⟩
theorem inv_sqR {X : Cx} {pins : List (Addr × Obj)} {σ : L2.St} {H : Hp} {s : Shared} (I : Inv X pins σ H s) {r : Rw} {xs : List V} (h : sqR X.K H r xs) : ∃ its : Array Value, obR s.heap its r ∧ its.size = xs.length ∧ r.lt s.heap.objs.size ∧ (∀ z, r = .txt z → its.size = z.cps.size) ∧ ∀ i v, pR its r i v → ∃ x, xs[i]? = some x ∧ RelV x v := by
  cases r with
  | lst a =>
    obtain ⟨its, rv, p, _⟩ := I.list h
    refine ⟨its.toArray, p.isList, by simp [rv.length], p.lt, fun z e => (nomatch e), fun i v e => ?_⟩
    have e' : its[i]? = some v := by simpa [pR] using e
    exact vals_back rv e'
  | tup a =>
    obtain ⟨its, rv, p, _⟩ := I.tuple h
    refine ⟨its.toArray, p, by simp [rv.length], p.lt, fun z e => (nomatch e), fun i v e => ?_⟩
    have e' : its[i]? = some v := by simpa [pR] using e
    exact vals_back rv e'
  | txt z =>
    have h : xs = z.cps.toList.map fun c => V.str ⟨#[c]⟩ := h
    subst h
    refine ⟨Array.replicate z.cps.size .none, by simp [obR], by simp, trivial, fun z' e => by cases e; simp, fun i v e => ?_⟩
    obtain ⟨c, u, e1, rfl⟩ := e
    exact ⟨.str ⟨#[c]⟩, by simp [e1], ⟨u, rfl⟩⟩
theorem sqR_inj {X : Cx} {pins : List (Addr × Obj)} {σ : L2.St} {H : Hp} {s : Shared} (I : Inv X pins σ H s) {r : Rw} {xs ys : List V} (h : sqR X.K H r xs) (g : sqR X.K H r ys) : xs = ys := by
  cases r with
  | lst a => exact I.list_inj h g
  | tup a => exact I.tuple_inj h g
  | txt z => exact (show xs = _ from h).trans (show ys = _ from g).symm
def ItZ (K : PySem.W.Frag) (q : Bool) (a b : Rw) : L2.It where
  go i H := ∃ xs ys x y, sqR K H a xs ∧ sqR K H b ys ∧ xs[i]? = some x ∧ ys[i]? = some y
  yld i H v H' := ∃ T x y, v = .ref T ∧ H T = none ∧ H' = upd H T (.tup [x, y]) ∧ (∀ xs, sqR K H a xs → xs[i]? = some x) ∧ ∀ ys, sqR K H b ys → ys[i]? = some y
  stop i H := ∃ xs ys, sqR K H a xs ∧ sqR K H b ys ∧ i ≤ xs.length ∧ i ≤ ys.length ∧ if q = true then i = xs.length ∧ i = ys.length else i = xs.length ∨ i = ys.length
theorem turnZ {P : Program} {w : World} {K : PySem.W.Frag} {el : List Expr} {kk : Nat} {tp : Pos} {q : Bool} {z TI TO i1 i2 : Addr} {a b : Rw} (S : ZipSep2 z TI TO i1 i2 (a.fp i1) (b.fp i2)) (na : ∀ x, a = .lst x ∨ a = .tup x → x ≠ i1) (nb : ∀ x, b = .lst x ∨ b = .tup x → x ≠ i2) :
    Turn P w K (.Tuple el kk tp) (ItZ K q a b) [z, TI, TO, i1, i2] z (fun i h => ZO q h z TI TO .none ∧ IsTupOf2 h TI (.ref i1) (.ref i2) ∧ (∃ x y, IsTupOf2 h TO x y) ∧ itR h i1 i a ∧ itR h i2 i b) where
  mem := by simp
  obj := fun i h st c hc => by
    obtain ⟨zo, ti, ⟨x, y, to⟩, t1, t2⟩ := st
    rcases (show c = z ∨ c = TI ∨ c = TO ∨ c = i1 ∨ c = i2 by simpa using hc) with r | r | r | r | r <;> subst r
    · exact ⟨_, zo, fun v r => nomatch r⟩
    · exact ⟨_, ti, fun v r => nomatch r⟩
    · exact ⟨_, to, fun v r => nomatch r⟩
    · exact t1.obj
    · exact t2.obj
  keep := fun i h h' st k => by
    obtain ⟨zo, ti, ⟨x, y, to⟩, t1, t2⟩ := st
    exact ⟨k _ (by simp) _ zo, k _ (by simp) _ ti, ⟨x, y, k _ (by simp) _ to⟩, t1.at (k _ (by simp)), t2.at (k _ (by simp))⟩
  item := by
    intro X hP hw hK hc i pins s σ H E I hf st hg
    subst hP hw hK
    obtain ⟨zo, ti, ⟨x0, y0, to⟩, t1, t2⟩ := st
    obtain ⟨xs, ys, x, y, hx, hy, ex, ey⟩ := hg
    obtain ⟨us, o1, su, _, tu, gu'⟩ := inv_sqR I hx
    obtain ⟨ws, o2, sw, _, tw, gw'⟩ := inv_sqR I hy
    have hh : X.A.in1.handled = none := I.ok.hd hc
    have zl : z < s.heap.objs.size := Heap.lt_size zo
    have gu : i < us.size := by have := (List.getElem?_eq_some_iff.mp ex).1; omega
    have gv : i < ws.size := by have := (List.getElem?_eq_some_iff.mp ey).1; omega
    refine zip_next_item S (drawR a hh i1 na us tu) (drawR b hh i2 nb ws tw) zo ti to ⟨t1, o1⟩ ⟨t2, o2⟩ gu gv fun u v h' tk p1 p2 z' o' s1 s2 nw kp => ?_
    obtain ⟨x', f1, vu⟩ := gu' i u p1
    obtain ⟨y', f2, vv⟩ := gw' i v p2
    rw [ex] at f1
    rw [ey] at f2
    cases f1
    cases f2
    refine ⟨_, rfl, zip_let (s := { s with heap := h', toks := tk }) z' fun h2 z2 sb => ?_⟩
    have nw2 : h2.get? s.heap.objs.size = some { cls := .type "tuple", data := .seq #[u, v] } := (sb.2 _ (Nat.ne_of_gt zl)).trans nw
    have new : ObjOk X.prog X.w (upd H s.heap.objs.size (.tup [x, y])) h2 s.heap.objs.size (.tup [x, y]) := ⟨by show 2 ≤ sizeLine; decide, [u, v], .cons vu (.cons vv .nil), ⟨_, nw2, rfl, _, rfl⟩⟩
    have I1 := I.turnedNew (t' := tk) (ch := [z, TI, TO, i1, i2]) (h' := h2) (fun c o hb r => (sb.2 c (fun y => hb (by simp [y]))).trans (kp c o (fun y => hb (by simp [y])) (fun y => hb (by simp [y])) (fun y => hb (by simp [y])) (fun y => hb (by simp [y])) r)) hf (Nat.le_refl _) new
    refine ⟨.ref s.heap.objs.size, _, I1, rfl, ⟨_, x, y, rfl, I.hok.fresh (Nat.le_refl _), rfl, fun l hl => by rw [sqR_inj I hl hx]; exact ex, fun l hl => by rw [sqR_inj I hl hy]; exact ey⟩, ⟨z2, (sb.2 _ S.TIz).trans (kp _ _ S.TIz S.TITO S.TIi1 S.TIi2 ti), ⟨u, v, (sb.2 _ S.TOz).trans o'⟩, s1.1.at fun o r => (sb.2 _ S.zi1.symm).trans r, s2.1.at fun o r => (sb.2 _ S.zi2.symm).trans r⟩, fun c hcm => ?_⟩
    have lt : c < s.heap.objs.size := by
      rcases (show c = z ∨ c = TI ∨ c = TO ∨ c = i1 ∨ c = i2 by simpa using hcm) with r | r | r | r | r <;> subst r
      · exact zl
      · exact Heap.lt_size ti
      · exact Heap.lt_size to
      · obtain ⟨_, r, _⟩ := t1.obj; exact Heap.lt_size r
      · obtain ⟨_, r, _⟩ := t2.obj; exact Heap.lt_size r
    rw [upd_ne (Nat.ne_of_lt lt)]
    exact (hf c hcm).1
  done := by
    intro X hP hw hK hc i pins s σ H E I hf st hg
    subst hP hw hK
    obtain ⟨zo, ti, ⟨x0, y0, to⟩, t1, t2⟩ := st
    obtain ⟨xs, ys, hx, hy, l1, l2, le⟩ := hg
    obtain ⟨us, o1, c1, _, tu, _⟩ := inv_sqR I hx
    obtain ⟨ws, o2, c2, _, tw, _⟩ := inv_sqR I hy
    have hh : X.A.in1.handled = none := I.ok.hd hc
    exact zip_next_end hh S (drawR a hh i1 na us tu) (drawR b hh i2 nb ws tw) zo ti to ⟨t1, o1⟩ ⟨t2, o2⟩ (by omega) (by omega) (by rw [c1, c2]; exact le) fun h' tk kp => ⟨rfl, I.turnedL (t' := tk) (ch := [z, TI, TO, i1, i2]) (fun c o hb r =>
      kp c o (fun y => hb (by simp [y])) (fun y => hb (by simp [y])) (fun y => hb (by simp [y])) (fun y => hb (by simp [y])) r) hf⟩
  self := fun A i s Q E st h => zip_self st.1 h
/-! ### zip(a, b), zip(a, b, strict=True) -/
abbrev zh1 (h : Heap) (o1 o2 : Obj) : Heap := (h.push o1).push o2
abbrev zh2 (h : Heap) (o1 o2 : Obj) : Heap := (zh1 h o1 o2).push { cls := .type "tuple", data := .seq #[.ref h.objs.size, .ref (h.push o1).objs.size] }
abbrev zh3 (h : Heap) (o1 o2 : Obj) : Heap := (zh2 h o1 o2).push { cls := .type "tuple", data := .seq #[.none, .none] }
abbrev zh4 (h : Heap) (o1 o2 : Obj) : Heap := (zh3 h o1 o2).push { cls := .type "zip", data := .fields #[.none, .bool false, .bool true, .ref (zh1 h o1 o2).objs.size, .ref (zh2 h o1 o2).objs.size] }
theorem zipS_meets {v1 v2 : Value} {o1 o2 : Obj} {H1 H2 : Heap → Prop} (B1 : Begins v1 o1 H1) (B2 : Begins v2 o2 H2) :
    Meets (Builtin.«zip.__new__» ⟨[.type "zip", v1, v2], [(Str.ofString "strict", .bool true)]⟩) (fun _ RR ss => (H1 ss.heap ∧ H2 ss.heap) ∧ RR (.ok (.ret (.ref (zh3 ss.heap o1 o2).objs.size))) { ss with heap := zh4 ss.heap o1 o2 }) :=
  .of_wp fun pr ww AA RR ss hy => by
    obtain ⟨hp, g, d, tk, os⟩ := ss
    obtain ⟨⟨y1, y2⟩, hy⟩ := hy
    have sb := sub_zip
    have g1 : ∀ {A' : Around} {E : Value → Shared → Prop} {Q : Value → Shared → Prop}, Q (.ref hp.objs.size) ⟨hp.push o1, g, d, tk, os⟩ → wpAny (model pr ww) A' (pyIter v1) Q E ⟨hp, g, d, tk, os⟩ :=
      fun k => B1.iter pr ww _ _ ⟨hp, g, d, tk, os⟩ _ (B1.keeps _ _ y1 fun b o e => e) k
    have g2 : ∀ {A' : Around} {E : Value → Shared → Prop} {Q : Value → Shared → Prop}, Q (.ref (hp.push o1).objs.size) ⟨(hp.push o1).push o2, g, d, tk, os⟩ → wpAny (model pr ww) A' (pyIter v2) Q E ⟨hp.push o1, g, d, tk, os⟩ :=
      fun k => B2.iter pr ww _ _ ⟨hp.push o1, g, d, tk, os⟩ _ (B2.keeps _ _ y2 fun b o e => Heap.get?_push_of_some _ e) k
    wp_walk using g1, g2
    exact ⟨_, rfl, hy⟩
section
variable {prog : Program} {w : World} {A : Around} {E : Value → Shared → Prop} {s : Shared}
theorem tc_zipS (a b : Value) : checkTypeCall "zip" ⟨[a, b], [(Str.ofString "strict", .bool true)]⟩ = pure () := by kernel_rfl
theorem nc_zipS (a b : Value) : checkBuiltinCall "zip.__new__" ⟨[.type "zip", a, b], [(Str.ofString "strict", .bool true)]⟩ = pure () := by kernel_rfl
theorem ai_zipS (o a b : Value) : argsOk "object.__init__" ⟨[o, a, b], [(Str.ofString "strict", .bool true)]⟩ := by unfold argsOk; kernel_rfl
theorem zipS_begins {v1 v2 : Value} {o1 o2 : Obj} {H1 H2 : Heap → Prop} {Q : Value → Shared → Prop} (B1 : Begins v1 o1 H1) (B2 : Begins v2 o2 H2) (h1 : H1 s.heap) (h2 : H2 s.heap)
    (k : ∀ h', ZO true h' (s.heap.objs.size + 4) (s.heap.objs.size + 2) (s.heap.objs.size + 3) .none → IsTupOf2 h' (s.heap.objs.size + 2) (.ref s.heap.objs.size) (.ref (s.heap.objs.size + 1)) →
      IsTupOf2 h' (s.heap.objs.size + 3) .none .none → h'.get? s.heap.objs.size = some o1 → h'.get? (s.heap.objs.size + 1) = some o2 →
      (∀ c o, s.heap.get? c = some o → h'.get? c = some o) → Q (.ref (s.heap.objs.size + 4)) { s with heap := h' }) :
    wpAny (model prog w) A (call (.type "zip") [v1, v2] [(Str.ofString "strict", .bool true)]) Q E s := by
  refine callType_newKw F.called_zip (by decide) (tc_zipS _ _) (nc_zipS _ _) (fun o => ai_zipS o _ _) F.entry_zip_new (zipS_meets B1 B2) ⟨⟨h1, h2⟩, ?_⟩
  have c1 : (s.heap.push o1).objs.size = s.heap.objs.size + 1 := Heap.size_push ..
  have c2 : (zh1 s.heap o1 o2).objs.size = s.heap.objs.size + 2 := by rw [Heap.size_push, c1]
  have c3 : (zh2 s.heap o1 o2).objs.size = s.heap.objs.size + 3 := by rw [Heap.size_push, c2]
  have c4 : (zh3 s.heap o1 o2).objs.size = s.heap.objs.size + 4 := by rw [Heap.size_push, c3]
  have d4 : (zh4 s.heap o1 o2).get? (zh3 s.heap o1 o2).objs.size = _ := Heap.get?_push_size _ rfl
  have d3 : (zh4 s.heap o1 o2).get? (zh2 s.heap o1 o2).objs.size = _ := Heap.get?_push_of_some _ (Heap.get?_push_size _ rfl)
  have d2 : (zh4 s.heap o1 o2).get? (zh1 s.heap o1 o2).objs.size = _ := Heap.get?_push_of_some _ (Heap.get?_push_of_some _ (Heap.get?_push_size _ rfl))
  have d1 : (zh4 s.heap o1 o2).get? (s.heap.push o1).objs.size = some o2 := Heap.get?_push_of_some _ (Heap.get?_push_of_some _ (Heap.get?_push_of_some _ (Heap.get?_push_size _ B2.free)))
  have d0 : (zh4 s.heap o1 o2).get? s.heap.objs.size = some o1 := Heap.get?_push_of_some _ (Heap.get?_push_of_some _ (Heap.get?_push_of_some _ (Heap.get?_push_of_some _ (Heap.get?_push_size _ B1.free))))
  rw [c4, c3, c2] at d4
  rw [c3] at d3
  rw [c2, c1] at d2
  rw [c1] at d1
  show _ ∧ _
  rw [c4]
  exact ⟨⟨_, d4, rfl⟩, k _ d4 d2 d3 d0 d1 fun c o e => Heap.get?_push_of_some _ (Heap.get?_push_of_some _ (Heap.get?_push_of_some _ (Heap.get?_push_of_some _ (Heap.get?_push_of_some _ e))))⟩
theorem cw_tyKw {pos : Pos} {T : String} {env : Env} {e : Expr} {rest : List Expr} {kws : List Keyword} {Q : Value → Shared → Prop}
    (h : wpAny (model prog w) A (spliced (backTo pos (starEach (e :: rest) env))) (fun vs s1 => wpAny (model prog w) A (evalAll ((backToKw pos (keywordEach kws env)).map (·.2))) (fun ks s2 => wpAny (model prog w) A (call (.type T) vs (((backToKw pos (keywordEach kws env)).filterMap (·.1)).zip ks)) Q E s2) E s1) E s)
    (he : starEach (e :: rest) env = (false, eval e env) :: starEach rest env) (hp : (backTo pos (starEach (e :: rest) env)).any (·.1) = false) (ha : (backToKw pos (keywordEach kws env)).all (·.1.isSome) = true) (hk : (backToKw pos (keywordEach kws env)).any (·.1.isNone) = false) :
    wpAny (model prog w) A (callWith pos (.type T) [] (backTo pos (starEach (e :: rest) env)) (backToKw pos (keywordEach kws env))) Q E s := by
  have he' : backTo pos (starEach (e :: rest) env) = (false, eval e env) :: backTo pos (starEach rest env) := by rw [he]; rfl
  unfold callWith
  refine wpAny_bind (wpAny_holding (wpAny_mono (Q := fun a s1 => wpAny (model prog w) A (call (.type T) a.pos a.kw) Q E s1) ?_ (fun a s1 h1 => wpAny_bind (wpAny_standAt ?_)) fun _ _ x => x))
  · rw [he'] at h ⊢
    exact evalArgs_kwB ha h
  · simp only [hp, hk, Bool.or_false]
    refine wpAny_bind (wpAny_pure ?_)
    exact wpAny_bind (wpAny_mono h1 (fun r s2 hr => wpAny_bind (wpAny_holding (wpAny_point (wpAny_pure hr)))) fun _ _ x => x)
end
def iZ (q : Bool) (K : PySem.W.Frag) (ta : TA) : TI := fun σ H R => ta σ H fun vs H1 => ∃ (a b : Rw) (xs ys : List V), vs = [a.v, b.v] ∧ sqR K H1 a xs ∧ sqR K H1 b ys ∧ R (ItZ K q a b) H1
theorem beginsR (r : Rw) (u : Value) (ru : RelV r.v u) (its : Array Value) : ∃ o, Begins u o (fun h => obR h its r) ∧ ∀ (h : Heap) (it : Addr), h.get? it = some o → itR h it 0 r := by
  cases r with
  | lst a => cases ru; exact ⟨_, begins_list a its, fun h it e => ⟨_, e, rfl, rfl⟩⟩
  | tup a => cases ru; exact ⟨_, begins_tuple a its, fun h it e => ⟨_, e, rfl, rfl⟩⟩
  | txt z =>
    obtain ⟨t, rfl⟩ := ru
    have B := begins_text z t
    exact ⟨_, ⟨fun pr ww A E s Q _ q => B.iter pr ww A E s Q trivial q, fun h h' x _ => x, B.free⟩, fun h it e => ⟨t, _, e, rfl, rfl⟩⟩
theorem sepZ {n : Nat} {a b : Rw} (la : a.lt n) (lb : b.lt n) : ZipSep2 (n + 4) (n + 2) (n + 3) n (n + 1) (a.fp n) (b.fp (n + 1)) := by
  have f1 : ∃ l : List Addr, a.fp n = n :: l ∧ ∀ c ∈ l, c < n := by
    cases a with
    | lst c => exact ⟨[c], rfl, fun d hd => by rw [List.mem_singleton.mp hd]; exact la⟩
    | tup c => exact ⟨[c], rfl, fun d hd => by rw [List.mem_singleton.mp hd]; exact la⟩
    | txt z => exact ⟨[], rfl, fun d hd => (nomatch hd)⟩
  have f2 : ∃ l : List Addr, b.fp (n + 1) = (n + 1) :: l ∧ ∀ c ∈ l, c < n := by
    cases b with
    | lst c => exact ⟨[c], rfl, fun d hd => by rw [List.mem_singleton.mp hd]; exact lb⟩
    | tup c => exact ⟨[c], rfl, fun d hd => by rw [List.mem_singleton.mp hd]; exact lb⟩
    | txt z => exact ⟨[], rfl, fun d hd => (nomatch hd)⟩
  obtain ⟨l1, e1, h1⟩ := f1
  obtain ⟨l2, e2, h2⟩ := f2
  rw [e1, e2]
  exact zip_sep2 h1 h2
theorem apZ {n m : Nat} {a : Rw} (la : a.lt n) (h : n ≤ m) : ∀ x, a = .lst x ∨ a = .tup x → x ≠ m := by
  intro x hx
  rcases hx with rfl | rfl <;> exact Nat.ne_of_lt (Nat.lt_of_lt_of_le la h)
theorem pi_zipZ {X : Cx} {q : Bool} {e e2 : Expr} {ta : TA} {p pos tp kp cp : Pos} {el : List Expr} {kk ck : Nat} (hg : Gl X "zip") (hm : X.mg "zip" = none) (ha : PA X [e, e2] ta) (hs : [e, e2].all noStar = true) :
    PI X (.Tuple el kk tp) (.Call (.Name "zip" p) [e, e2] (if q = true then [⟨some "strict", .Constant (.bool true) ck cp, kp⟩] else []) pos) (iZ q X.K ta) := by
  have hs' := hs
  simp only [List.all_cons, Bool.and_eq_true] at hs'
  have st := star_cons (es := [e2]) hs'.1 X.env
  have sa := star_any hs X.env pos
  have sb := star_any (es := [e2]) (by simpa using hs'.2.1) X.env pos
  refine ⟨fun pins s σ H R I h => ?_⟩
  have fin : ∀ (s2 : Shared) (H1 : Hp) (a b : Rw) (h' : Heap), Inv X pins σ H1 s2 → a.lt s2.heap.objs.size → b.lt s2.heap.objs.size → ZO q h' (s2.heap.objs.size + 4) (s2.heap.objs.size + 2) (s2.heap.objs.size + 3) .none → IsTupOf2 h' (s2.heap.objs.size + 2) (.ref s2.heap.objs.size) (.ref (s2.heap.objs.size + 1)) →
      IsTupOf2 h' (s2.heap.objs.size + 3) .none .none → itR h' s2.heap.objs.size 0 a → itR h' (s2.heap.objs.size + 1) 0 b → (∀ c o, s2.heap.get? c = some o → h'.get? c = some o) → R (ItZ X.K q a b) H1 →
      wpAny (model X.prog X.w) X.A (pyIter (.ref (s2.heap.objs.size + 4))) (PIE X pins σ (.Tuple el kk tp) R) X.xe { s2 with heap := h' } := by
    intro s2 H1 a b h' I2 la lb zo ti to t1 t2 kp hR
    refine zip_self (s := { s2 with heap := h' }) zo ?_
    have I3 := I2.kept (h' := h') (t' := s2.toks) kp
    refine ⟨s2.heap.objs.size + 4, [s2.heap.objs.size + 4, s2.heap.objs.size + 2, s2.heap.objs.size + 3, s2.heap.objs.size, s2.heap.objs.size + 1], _, _, H1, rfl, I3, turnZ (sepZ la lb) (apZ la (Nat.le_refl _)) (apZ lb (Nat.le_succ _)), ⟨zo, ti, ⟨_, _, to⟩, t1, t2⟩, fun c hcm => ?_, hR⟩
    have hle : s2.heap.objs.size ≤ c := by
      rcases (show c = s2.heap.objs.size + 4 ∨ c = s2.heap.objs.size + 2 ∨ c = s2.heap.objs.size + 3 ∨ c = s2.heap.objs.size ∨ c = s2.heap.objs.size + 1 by simpa using hcm) with r | r | r | r | r <;> (rw [r]; first | exact Nat.le_refl _ | exact Nat.le_add_right _ _)
    exact I2.fpOk hle (I2.hok.fresh hle)
  cases q with
  | false =>
    refine Call_ (ld_blt I hg hm boot_zip (callWith_type1 (thn (ha.run pos pins s σ H _ I h) fun us s1 ⟨vs, H1, I1, r1, q1⟩ => ?_) st sb))
    obtain ⟨a, b, xs, ys, rfl, hx, hy, hR⟩ := q1
    obtain ⟨u1, u2, rfl, ru1, ru2⟩ := vals2 r1
    obtain ⟨its1, p1, _, la, _, _⟩ := inv_sqR I1 hx
    obtain ⟨its2, p2, _, lb, _, _⟩ := inv_sqR I1 hy
    obtain ⟨o1, B1, t1⟩ := beginsR a u1 ru1 its1
    obtain ⟨o2, B2, t2⟩ := beginsR b u2 ru2 its2
    exact zip_begins2 B1 B2 p1 p2 fun h' zo ti to d0 d1 _ kp => fin s1 H1 a b h' I1 la lb zo ti to (t1 _ _ d0) (t2 _ _ d1) kp hR
  | true =>
    refine wpAny_Call_Name_kw (ld_blt I hg hm boot_zip (cw_tyKw (thn (ha.run pos pins s σ H _ I h) fun us s1 ⟨vs, H1, I1, r1, q1⟩ => ?_) st sa (by rfl) (by rfl)))
    obtain ⟨a, b, xs, ys, rfl, hx, hy, hR⟩ := q1
    obtain ⟨u1, u2, rfl, ru1, ru2⟩ := vals2 r1
    refine kws_cons (thn (pe_bl.run pins s1 σ H1 (fun v H2 => v = .bl true ∧ H2 = H1) I1 ⟨rfl, rfl⟩) fun v s2 ⟨x, H2, I2, r2, e1, e2⟩ => kws_nil ?_)
    subst e1 e2
    cases r2
    show wpAny _ _ (call (.type "zip") [u1, u2] [(Str.ofString "strict", .bool true)]) _ _ s2
    obtain ⟨its1, p1, _, la, _, _⟩ := inv_sqR I2 hx
    obtain ⟨its2, p2, _, lb, _, _⟩ := inv_sqR I2 hy
    obtain ⟨o1, B1, t1⟩ := beginsR a u1 ru1 its1
    obtain ⟨o2, B2, t2⟩ := beginsR b u2 ru2 its2
    exact zipS_begins B1 B2 p1 p2 fun h' zo ti to d0 d1 kp => fin s2 H2 a b h' I2 la lb zo ti to (t1 _ _ d0) (t2 _ _ d1) kp hR
end TW
namespace TW
open PySem PySem.Spec PyProof.Rows L2
theorem pi_weak {X : Cx} {tg it : Expr} {w w' : TI} (h : PI X tg it w) (k : ∀ σ H R, w' σ H R → w σ H R) : PI X tg it w' := ⟨fun pins s σ H R I q => h.run pins s σ H R I (k σ H R q)⟩
/-- a row that stays while the pins stand -/
def RowAt (K : PySem.W.Frag) (m0 : Mp) (H0 : Hp) (xs : List D) (ps : List (Nat × List D)) (k : Bool) (a : Addr) : Prop :=
  ∀ m H st, (∃ t, m.ad = m0.ad ++ t) → Same (hm m0 H0) (hm m H) → Rel K m st H → pinOk ps st = true → ∃ vs, sqK k K H a vs ∧ RepDs K (hm m H) xs vs
theorem rowV_at {K : PySem.W.Frag} {m : Mp} {H : Hp} {st : Sto} {x : Vv} {v : V} {xs : List D} {ps : List (Nat × List D)} (rel : Rel K m st H) (r : RepV K m H x v) (e : rowV x st = some (xs, ps)) : ∃ k a, v = .ref a ∧ RowAt K m H xs ps k a ∧ pinOk ps st = true := by
  unfold rowV at e
  split at e
  · cases e
    simp only [RepV, RepD] at r
    obtain ⟨a, vs, rfl, q1, _, q2⟩ := r
    exact ⟨false, a, rfl, fun m' H' st' _ x _ _ => ⟨vs, hm_same.seq (x.seq q1), q2.mono x⟩, rfl⟩
  · cases e
    simp only [RepV, RepD] at r
    obtain ⟨a, vs, rfl, q1, _, q2⟩ := r
    exact ⟨true, a, rfl, fun m' H' st' _ x _ _ => ⟨vs, same_tup hm_same (same_tup x q1), q2.mono x⟩, rfl⟩
  · split at e
    · rename_i ys hy
      cases e
      obtain ⟨a, q1, rfl⟩ := r
      refine ⟨false, a, rfl, fun m' H' st' t x rel' k => ?_, ?_⟩
      · obtain ⟨vs, h1, h2⟩ := pin_rep q1 t rel' k
        exact ⟨vs, sql_of h1, h2⟩
      · simp only [pinOk, List.all_cons, List.all_nil, Bool.and_true, hy]
        exact sameDs_refl _
    · cases e
  · cases e
/-- .. for a zip -/
def RowR (K : PySem.W.Frag) (m0 : Mp) (H0 : Hp) (xs : List D) (ps : List (Nat × List D)) (r : Rw) : Prop :=
  ∀ m H st, (∃ t, m.ad = m0.ad ++ t) → Same (hm m0 H0) (hm m H) → Rel K m st H → pinOk ps st = true → ∃ vs, sqR K H r vs ∧ RepDs K (hm m H) xs vs
theorem reps_txt {K : PySem.W.Frag} {H : Hp} : ∀ cs : List Nat, (∀ c ∈ cs, c < 0x110000) → RepDs K H (cs.map fun c => D.str ⟨#[c]⟩) (cs.map fun c => V.str ⟨#[c]⟩)
  | [], _ => .nil
  | c :: cs, h => by
    refine .cons ?_ (reps_txt cs fun d hd => h d (List.mem_cons_of_mem _ hd))
    simp only [RepD]
    refine ⟨trivial, by show 1 ≤ sizeLine; decide, ?_⟩
    rw [strOk_iff]
    intro d hd
    have : d = c := by simpa using hd
    subst this
    exact h _ (List.mem_cons_self ..)
theorem rowT_at {K : PySem.W.Frag} {m : Mp} {H : Hp} {st : Sto} {x : Vv} {v : V} {xs : List D} {ps : List (Nat × List D)} (rel : Rel K m st H) (r : RepV K m H x v) (e : rowT x st = some (xs, ps)) : ∃ a : Rw, v = a.v ∧ RowR K m H xs ps a ∧ pinOk ps st = true := by
  unfold rowT at e
  split at e
  · cases e
    simp only [RepV, RepD] at r
    obtain ⟨rfl, _, o⟩ := r
    exact ⟨.txt _, rfl, fun m' H' st' _ _ _ _ => ⟨_, rfl, reps_txt _ (strOk_iff.mp o)⟩, rfl⟩
  · obtain ⟨k, a, rfl, h, p⟩ := rowV_at rel r e
    cases k with
    | false => exact ⟨.lst a, rfl, h, p⟩
    | true => exact ⟨.tup a, rfl, h, p⟩
theorem pin_app {ps rs : List (Nat × List D)} {st : Sto} (h : pinOk (ps ++ rs) st = true) : pinOk ps st = true ∧ pinOk rs st = true := by
  unfold pinOk at *
  rw [List.all_append, Bool.and_eq_true] at h
  exact h
theorem wk_zip {K : PySem.W.Frag} {m0 : Mp} {H0 : Hp} {q : Bool} {a b : Rw} {xs ys : List D} {ps rs : List (Nat × List D)} (h1 : RowR K m0 H0 xs ps a) (h2 : RowR K m0 H0 ys rs b) (hl : q = true → xs.length = ys.length) :
    Wk K m0 H0 ⟨zipD xs ys, ps ++ rs⟩ (ItZ K q a b) where
  stop m H st t x rel k := by
    obtain ⟨us, s1, r1⟩ := h1 m H st t x rel (pin_app k).1
    obtain ⟨ws, s2, r2⟩ := h2 m H st t x rel (pin_app k).2
    have c1 := r1.length
    have c2 := r2.length
    have c3 := zipD_len xs ys
    refine ⟨us, ws, s1, s2, by simp only [c3]; omega, by simp only [c3]; omega, ?_⟩
    simp only [c3]
    cases q with
    | true => have := hl rfl; simp only [if_true]; omega
    | false => simp only [Bool.false_eq_true, if_false]; omega
  go m H st t x rel k i d hd := by
    obtain ⟨us, s1, r1⟩ := h1 m H st t x rel (pin_app k).1
    obtain ⟨ws, s2, r2⟩ := h2 m H st t x rel (pin_app k).2
    obtain ⟨u, v, e1, e2, rfl⟩ := zipD_get xs ys i d hd
    obtain ⟨u', f1, _⟩ := r1.get e1
    obtain ⟨v', f2, _⟩ := r2.get e2
    exact ⟨us, ws, u', v', s1, s2, f1, f2⟩
  yld m H st t x rel k i d y H' hd hy := by
    obtain ⟨us, s1, r1⟩ := h1 m H st t x rel (pin_app k).1
    obtain ⟨ws, s2, r2⟩ := h2 m H st t x rel (pin_app k).2
    obtain ⟨u, v, e1, e2, rfl⟩ := zipD_get xs ys i d hd
    obtain ⟨T, x', y', rfl, n, rfl, g1, g2⟩ := hy
    obtain ⟨u', f1, ru⟩ := r1.get e1
    obtain ⟨v', f2, rv⟩ := r2.get e2
    have z1 := g1 us s1
    have z2 := g2 ws s2
    rw [f1] at z1
    rw [f2] at z2
    cases z1
    cases z2
    exact pair_rep rel ru rv n
variable {X : Cx} {g : Gx} {pos : Pos}
theorem li_zip (hK : g.K = X.K) {q : Bool} {e e2 : Expr} {fr : En → Sto → R (List Vv)} {p tp kp cp : Pos} {el : List Expr} {kk ck : Nat} (hg : Gl X "zip") (hm : X.mg "zip" = none) (ha : PA X [e, e2] (LA g fr)) (hs : [e, e2].all noStar = true) :
    PI X (.Tuple el kk tp) (.Call (.Name "zip" p) [e, e2] (if q = true then [⟨some "strict", .Constant (.bool true) ck cp, kp⟩] else []) pos) (LI g fun en st => (fr en st).bind (kZip q)) := by
  refine pi_weak (pi_zipZ hg hm ha hs) ?_
  rintro σ H R ⟨m, en, st, rel, re, out⟩
  refine ⟨m, en, st, rel, re, Out.bind out fun vs st1 m1 H1 ws e1 x1 l1 rx o1 => ?_⟩
  unfold kZip at o1
  split at o1
  · rename_i x y
    split at o1
    · rename_i xs ps ys rs h1 h2
      split at o1
      · rename_i hl
        obtain ⟨v, w, rfl, rv, rw'⟩ := p2 rx
        obtain ⟨a, rfl, A1, P1⟩ := rowT_at l1 rv h1
        obtain ⟨b, rfl, A2, P2⟩ := rowT_at l1 rw' h2
        obtain ⟨us, s1, _⟩ := A1 m1 H1 st1 ⟨[], by simp⟩ (.refl _) l1 P1
        obtain ⟨ws, s2, _⟩ := A2 m1 H1 st1 ⟨[], by simp⟩ (.refl _) l1 P2
        rw [← hK]
        exact ⟨a, b, us, ws, rfl, s1, s2, o1 m1 H1 _ .refl l1 (wk_zip A1 A2 hl)⟩
      · exact o1.elim
    · exact o1.elim
  · exact o1.elim
end TW
namespace TW
open PySem PySem.Spec PyProof.Rows L2
section
variable {prog : Program} {w : World} {A : Around} {E : Value → Shared → Prop} {s : Shared}
theorem walksK (k : Bool) (hh : A.handled = none) (it a : Addr) (ne : a ≠ it) (its : Array Value) : Walks prog w A it [it, a] [it] its.size (fun i v => its[i]? = some v) (fun i h => itSt k h it a i ∧ obK k h a its) := by
  cases k
  · exact Walks.list hh it a ne its
  · exact Walks.tuple hh it a ne its
theorem itSt.ty {k : Bool} {u : Shared} {it a : Addr} {i : Nat} (t : itSt k u.heap it a i) : u.TypeIs (.ref it) (if k = true then "tuple_iterator" else "list_iterator") := by
  cases k
  · exact Heap.IsListIter.typeIs t
  · exact Heap.IsTupleIter.typeIs t
theorem iterK {k : Bool} {a : Addr} {its : Array Value} {Q : Value → Shared → Prop} (ob : obK k s.heap a its) (q : ∀ h', itSt k h' s.heap.objs.size a 0 → (∀ b o, s.heap.get? b = some o → h'.get? b = some o) → Q (.ref s.heap.objs.size) { s with heap := h' }) : wpAny (model prog w) A (pyIter (.ref a)) Q E s := by
  cases k
  · exact wpAny_pyIter_list ob (q _ ⟨_, Heap.get?_push_size _ rfl, rfl, rfl⟩ fun b o e => Heap.get?_push_of_some _ e)
  · exact iter_tuple ob (q _ ⟨_, Heap.get?_push_size _ rfl, rfl, rfl⟩ fun b o e => Heap.get?_push_of_some _ e)
theorem obK.at {k : Bool} {h h' : Heap} {a : Addr} {its : Array Value} (ob : obK k h a its) (e : ∀ o, h.get? a = some o → h'.get? a = some o) : obK k h' a its := by
  cases k
  · exact Heap.IsList.at ob e
  · exact Heap.IsTuple.at ob e
theorem drawsK {k : Bool} {it a : Addr} {its : Array Value} (ne : a ≠ it) (n : Nat) {Q : List Value → Shared → Prop} (t : itSt k s.heap it a 0) (ob : obK k s.heap a its) (hn : n ≤ its.size)
    (q : ∀ h', itSt k h' it a n → Heap.SameBut it s.heap h' → Q (its.toList.take n) { s with heap := h' }) : wpAny (model prog w) A (draw (.ref it) n) Q E s := by
  cases k
  · exact PySem.W.kun_draw ne n 0 s Q t ob (by omega) fun h' t' e => by rw [Nat.zero_add] at t'; have := q h' t' e; simpa using this
  · exact draw_tuple ne n 0 s Q t ob (by omega) fun h' t' e => by rw [Nat.zero_add] at t'; have := q h' t' e; simpa using this
theorem iterableK {k : Bool} {a : Addr} {its : Array Value} {Q : Bool → Shared → Prop} (ob : obK k s.heap a its) (q : Q false s) : wpAny (model prog w) A (notIterableAtAll (.ref a)) Q E s := by
  unfold notIterableAtAll
  cases k
  · exact wpAny_bind (wpAny_specialOf (Heap.IsList.typeIs ob) slot_list_iter.lookup (wpAny_pure q))
  · exact wpAny_bind (wpAny_specialOf (Heap.IsTuple.typeIs ob) slot_tuple_iter.lookup (wpAny_pure q))
/-- the first n items, and the rest as a new list -/
theorem star_items {k : Bool} {l : Addr} {its : Array Value} {n : Nat} {Q : List Value → Shared → Prop} (hh : A.handled = none) (ob : obK k s.heap l its) (lt : l < s.heap.objs.size) (hn : n ≤ its.size) (hz : its.size ≤ sizeLine)
    (q : ∀ (h' : Heap) (tk : Nat), (∀ b o, s.heap.get? b = some o → h'.get? b = some o) → Q (its.toList.take n ++ [.ref h'.objs.size]) { s with heap := h'.push { cls := .type "list", data := .seq (its.toList.drop n).toArray }, toks := tk }) :
    wpAny (model prog w) A (unpackItems (.ref l) (n + 1) (some n)) Q E s := by
  have ne : l ≠ s.heap.objs.size := Nat.ne_of_lt lt
  have fl : (its.toList.take n).length = n := by rw [List.length_take, Array.length_toList]; omega
  unfold unpackItems
  refine wpAny_bind (iterableK ob ?_)
  rw [if_neg (by simp)]
  refine wpAny_bind (wpAny_holding (iterK ob fun h1 t1 e1 => ?_))
  have ob1 : obK k h1 l its := ob.at fun o => e1 l o
  refine wpAny_bind (wpAny_holding (drawsK (s := { s with heap := h1 }) ne n t1 ob1 hn fun h2 t2 e2 => ?_))
  have ob2 : obK k h2 l its := ob1.at fun o x => e2.extBut l o ne x
  have s2 : s.heap.objs.size < h2.objs.size := by obtain ⟨o, ho, _⟩ := t2.obj; exact Heap.lt_size ho
  rw [if_neg (by rw [fl]; omega)]
  refine wpAny_bind (wpAny_holding (PySem.W.kun_collect (s := { s with heap := h2 }) (ax := l) (T := if k = true then "tuple_iterator" else "list_iterator") (by cases k <;> simp) (walksK (A := A.in1) k hh s.heap.objs.size l ne its) (fun i u st => st.1.ty) hn ⟨t2, ob2⟩ s2 (Nat.lt_trans lt s2) (fun h3 tk e3 => ?_) hz))
  have up : ∀ b o, s.heap.get? b = some o → h3.get? b = some o := fun b o x => e3 b o (Nat.ne_of_lt (Heap.lt_size x)) (e2.extBut b o (Nat.ne_of_lt (Heap.lt_size x)) (e1 b o x))
  have m0 : n + 1 - 1 - n = 0 := by omega
  simp only [m0, Nat.not_lt_zero, if_false, Nat.sub_zero, List.take_length, List.drop_length, List.append_nil]
  refine wpAny_bind (wpAny_newList ?_ (by rw [List.length_drop, Array.length_toList]; omega))
  exact wpAny_pure (q h3 tk up)
end
/-! a, *b = row -/
def gStar (K : PySem.W.Frag) (n : Nat) (t : TGs) : TG := fun v σ H Q => ∃ k a xs, v = .ref a ∧ sqK k K H a xs ∧ n ≤ xs.length ∧ xs.length ≤ sizeLine ∧ ∀ p, H p = none → t (xs.take n ++ [.ref p]) σ (upd H p (.lst (xs.drop n))) Q
theorem pg_star {X : Cx} {es : List Expr} {k n : Nat} {t : TGs} {pos : Pos} (hc : X.calm = true) (h : PGs X es t) (hn : (assignEach es X.env).length = n + 1) (hs : (assignEach es X.env).findIdx? (·.1) = some n) : PG X (.Tuple es k pos) (gStar X.K n t) := by
  refine ⟨fun pins s σ H v u Q I r hw => ?_⟩
  obtain ⟨kd, a, xs, rfl, hq, hl, hz, hw⟩ := hw
  cases r
  obtain ⟨its, rv, ob, lt⟩ := inv_sq I hq
  have len := rv.length
  rw [assign_Tuple]
  refine wpAny_bind (wpAny_standAt ?_)
  unfold unpack
  rw [hn, hs]
  refine wpAny_bind (wpAny_holding (star_items (I.ok.hd hc) ob lt (by simpa [← len] using hl) (by simpa [← len] using hz) fun h' tk up => ?_))
  have I1 : Inv X pins σ H { s with heap := h', toks := tk } := I.kept up
  have hf : H h'.objs.size = none := I1.hok.fresh (Nat.le_refl _)
  have new : ObjOk X.prog X.w (upd H h'.objs.size (.lst (xs.drop n))) (h'.push { cls := .type "list", data := .seq (its.toArray.toList.drop n).toArray }) h'.objs.size (.lst (xs.drop n)) := by
    refine ⟨by rw [List.length_drop]; omega, its.drop n, 0, rv.drop n, ?_⟩
    simpa using Heap.get?_push_size h' (o := { cls := .type "list", data := .seq (its.toArray.toList.drop n).toArray }) rfl
  have I2 := I1.laid (t' := tk) (h' := h'.push { cls := .type "list", data := .seq (its.toArray.toList.drop n).toArray }) (fun b u e => Heap.get?_push_of_some _ e) (Nat.le_refl _) new
  refine h.run pins _ σ _ (xs.take n ++ [.ref h'.objs.size]) _ Q I2 ?_ (hw _ hf)
  simp only [List.toList_toArray]
  exact (rv.take n).append (.cons rfl .nil)
theorem rowV_len {K : PySem.W.Frag} {m : Mp} {H : Hp} {st : Sto} {x : Vv} {v : V} {xs : List D} {ps : List (Nat × List D)} (rel : Rel K m st H) (r : RepV K m H x v) (e : rowV x st = some (xs, ps)) : xs.length ≤ sizeLine := by
  unfold rowV at e
  split at e
  · cases e
    simp only [RepV, RepD] at r
    obtain ⟨a, vs, rfl, q1, l, q2⟩ := r
    exact l
  · cases e
    simp only [RepV, RepD] at r
    obtain ⟨a, vs, rfl, q1, l, q2⟩ := r
    exact l
  · split at e
    · rename_i ys hy
      cases e
      obtain ⟨a, q1, rfl⟩ := r
      obtain ⟨u, h1, h2⟩ := rel.get _ _ a hy q1
      obtain ⟨vs, rfl, h3, l⟩ := h2
      exact l
    · cases e
  · cases e
theorem pgs_starred {X : Cx} {t : Expr} {p : Pos} {T : TGs} (hn : noStar t = true) (h : PGs X [t] T) : PGs X [.Starred t p] T := by
  have e : (assignEach [.Starred t p] X.env).map (·.2) = (assignEach [t] X.env).map (·.2) := by
    rw [assign_cons (es := []) hn]
    rfl
  refine ⟨fun pins s σ H vs us Q I r q => ?_⟩
  rw [e]
  exact h.run pins s σ H vs us Q I r q
/-- names, the last one starred -/
def starNames : List Expr → Option (List Str × Str)
  | [.Starred (.Name y _) _] => some ([], y)
  | .Name x _ :: es => match starNames es with | some r => some (x :: r.1, r.2) | none => none
  | _ => none
def gNs : List Nat → TGs
  | [], vs, σ, H, Q => vs = [] ∧ Q σ H
  | i :: is, vs, σ, H, Q => ∃ v r, vs = v :: r ∧ gNs is r (σ.set i (some v)) H Q
structure Slot1 (X : Cx) (x : Str) (i : Nat) : Prop where
  ix : X.N[i]? = some x
  lc : L2.Loc X.env.scope x
  fn : X.fn x = true ∨ X.env.scope.names.lookup x = some .local
theorem pgs_names {X : Cx} (hN : X.N.Nodup) : ∀ {es : List Expr} {xs : List Str} {y : Str} {is : List Nat} {j : Nat}, starNames es = some (xs, y) → Paired (Slot1 X) xs is → Slot1 X y j → PGs X es (gNs (is ++ [j])) ∧ (assignEach es X.env).length = xs.length + 1 ∧ (assignEach es X.env).findIdx? (·.1) = some xs.length
  | [], _, _, _, _, h, _, _ => by simp [starNames] at h
  | e :: es, xs, y, is, j, h, hs, hy => by
    unfold starNames at h
    split at h
    · rename_i y' p q heq
      cases heq
      cases h
      cases hs
      refine ⟨pgs_starred rfl (pgs_weak (pgs_cons (pg_name hN hy.ix hy.lc hy.fn) pgs_nil) ?_), rfl, rfl⟩
      rintro v σ H Q ⟨v', r, rfl, rfl, h⟩
      exact ⟨v', [], rfl, rfl, h⟩
    · rename_i x p es' heq
      cases heq
      split at h
      · rename_i r hr
        cases h
        cases hs with
        | cons h1 h2 =>
          obtain ⟨k1, k2, k3⟩ := pgs_names hN (show starNames es = some (r.1, r.2) from hr) h2 hy
          refine ⟨pgs_weak (pgs_cons (pg_name hN h1.ix h1.lc h1.fn) k1) ?_, by simp [assignEach, k2], by simp [assignEach, List.findIdx?_cons, k3]⟩
          rintro v σ H Q ⟨v', r', rfl, h⟩
          exact ⟨v', r', rfl, h⟩
      · cases h
    · cases h
theorem gNs_set {g : Gx} {own : Nat → Prop} {m : Mp} {H : Hp} {Q : L2.St → Hp → Prop} {p : Addr} {j : Nat} {x : Vv} {st : Sto} : ∀ {is : List Nat} {ds : List D} {vs : List V} {en en' : En} {σ : L2.St}, Rel g.K m st H → RepE g.K m H en σ → RepDs g.K (hm m H) ds vs → setAll is (ds.map Vv.d) en = some en' → RepV g.K m H x (.ref p) →
    (∀ i ∈ is, own i) → own j → OutG g own σ m H Q (.ok (en'.set j (some x)) st) → gNs (is ++ [j]) (vs ++ [.ref p]) σ H Q
  | [], ds, vs, en, en', σ, rel, re, rd, hs, rx, ho, hj, out => by
    cases ds with
    | nil =>
      simp only [RepDs] at rd
      subst rd
      simp only [List.map_nil, setAll, Option.some.injEq] at hs
      subst hs
      refine ⟨_, [], rfl, rfl, out m H _ .refl rel (re.set rx j) ⟨by simp, fun k hk => ?_⟩⟩
      have ne : j ≠ k := fun e => hk (by rw [← e]; exact hj)
      exact List.getElem?_set_ne ne
    | cons d ds => simp [setAll] at hs
  | i :: is, ds, vs, en, en', σ, rel, re, rd, hs, rx, ho, hj, out => by
    cases ds with
    | nil => simp [setAll] at hs
    | cons d ds =>
      obtain ⟨v, r, rfl, rv, rr⟩ := rd.uncons
      simp only [List.map_cons, setAll] at hs
      refine ⟨v, r ++ [.ref p], rfl, gNs_set rel (re.set (x := .d d) rv i) rr hs rx (fun k hk => ho k (List.mem_cons_of_mem _ hk)) hj (OutG.slots ⟨by simp, fun k hk => ?_⟩ out)⟩
      have ne : i ≠ k := fun e => hk (by rw [← e]; exact ho i (List.mem_cons_self ..))
      exact List.getElem?_set_ne ne
theorem lg_star {X : Cx} {g : Gx} {own : Nat → Prop} (hK : g.K = X.K) (hc : X.calm = true) (hN : X.N.Nodup) {es : List Expr} {kk : Nat} {pos : Pos} {xs : List Str} {y : Str} {is : List Nat} {j : Nat} (nw : Bool) (h : starNames es = some (xs, y)) (hs : Paired (Slot1 X) xs is) (hy : Slot1 X y j)
    (ho : ∀ i ∈ is, own i) (hj : own j) : PG X (.Tuple es kk pos) (LG g own (starV is j nw)) := by
  obtain ⟨k1, k2, k3⟩ := pgs_names hN h hs hy
  refine pg_weak (pg_star hc k1 k2 k3) ?_
  rintro v σ H Q ⟨m, en, st, x, rel, re, rx, out⟩
  unfold starV at out
  split at out
  · rename_i ds ps hr
    split at out
    · rename_i hl
      split at out
      · rename_i en' he
        obtain ⟨k, a, rfl, A1, P1⟩ := rowV_at rel rx hr
        obtain ⟨vs, s1, r1⟩ := A1 m H st ⟨[], by simp⟩ (.refl _) rel P1
        have len := r1.length
        have hln := Paired.length hs
        have hsz : vs.length ≤ sizeLine := by
          have := rowV_len rel rx hr
          omega
        rw [← hK]
        refine ⟨k, a, vs, rfl, s1, by omega, hsz, fun p np => ?_⟩
        rw [hln]
        cases nw with
        | true =>
          simp only [if_true] at out
          have q : RepO g.K (hm m H) (.lst (ds.drop is.length)) (.lst (vs.drop is.length)) := ⟨_, rfl, r1.drop _, by rw [List.length_drop]; omega⟩
          obtain ⟨rel2, e2⟩ := rel.new np q
          have : RepV g.K ⟨m.ad ++ [p], m.hid⟩ (upd H p (.lst (vs.drop is.length))) (.ref st.length) (.ref p) := ⟨p, by rw [← rel.len]; simp, rfl⟩
          exact gNs_set rel2 (re.ext e2) ((r1.take _).mono e2.same) he this ho hj (OutG.ext e2 out)
        | false =>
          simp only [Bool.false_eq_true, if_false] at out
          have rel2 := rel.fresh (o := .lst (vs.drop is.length)) np
          have e2 := rel.ext_fresh (o := .lst (vs.drop is.length)) np
          have : RepV g.K m (upd H p (.lst (vs.drop is.length))) (.d (.lst (ds.drop is.length))) (.ref p) := by
            simp only [RepV, RepD]
            exact ⟨p, vs.drop is.length, rfl, sql_of (hm_some.mpr ⟨rel.fresh_ne np, upd_same⟩), by rw [List.length_drop]; omega, (r1.drop _).mono e2.same⟩
          exact gNs_set rel2 (re.ext e2) ((r1.take _).mono e2.same) he this ho hj (OutG.ext e2 out)
      · exact out.elim
    · exact out.elim
  · exact out.elim
end TW
namespace TW
open PySem PySem.Spec PyProof.Rows L2
/-! ### tables of the module by texts -/
def TabOk (K : PySem.W.Frag) (w : World) (mg : Str → Option Value) (x : Str) (t : List (Str × D)) : Prop := ∃ d es n, mg x = some (.ref d) ∧ KDict K w d es n ∧
  ∀ z : Str, (t.lookup z = none ∧ PySem.W.nsIn K d z = some none) ∨ ∃ dd u v, t.lookup z = some dd ∧ PySem.W.nsIn K d z = some (some u) ∧ RelV v u ∧ ∀ H, RepD K H dd v
variable {X : Cx} {g : Gx} {pos : Pos} {a : Expr} {fa : En → Sto → R Vv}
def rTin (K : PySem.W.Frag) (neg : Bool) (t : List (Str × D)) : R2 := fun x y H Q => ∃ z, x = .str z ∧ Q (.bl (if neg = true then !(t.lookup z).isSome else (t.lookup z).isSome)) H
theorem tin_op {x : Str} {t : List (Str × D)} (neg : Bool) (h : TabOk X.K X.w X.mg x t) : ∃ d, X.mg x = some (.ref d) ∧ OpR X (compareOp (if neg = true then .NotIn else .In)) (fun u y H Q => y = .ref d ∧ rTin X.K neg t u y H Q) := by
  obtain ⟨d, es, n, h1, D, h2⟩ := h
  refine ⟨d, h1, ?_⟩
  intro pins s σ H u y v w Q I rx ry q
  obtain ⟨rfl, z, rfl, q⟩ := q
  rcases h2 z with ⟨e1, e2⟩ | ⟨dd, u, v', e1, e2, _⟩
  · cases neg
    · exact op_in_kd D pins s σ H _ _ v w Q I rx ry ⟨z, none, rfl, rfl, e2, by simpa [e1] using q⟩
    · exact op_notIn_kd D pins s σ H _ _ v w Q I rx ry ⟨z, none, rfl, rfl, e2, by simpa [e1] using q⟩
  · cases neg
    · exact op_in_kd D pins s σ H _ _ v w Q I rx ry ⟨z, some u, rfl, rfl, e2, by simpa [e1] using q⟩
    · exact op_notIn_kd D pins s σ H _ _ v w Q I rx ry ⟨z, some u, rfl, rfl, e2, by simpa [e1] using q⟩
theorem out_tin {m : Mp} {H : Hp} {σ : L2.St} {Q : VK} {neg : Bool} {t : List (Str × D)} {x : Vv} {st : Sto} {v : V} (rel : Rel g.K m st H) (rx : RepV g.K m H x v) (o : Out g m H σ (RepV g.K) Q (kTin neg t x st)) (y : V) (K : PySem.W.Frag) : rTin K neg t v y H Q := by
  unfold kTin at o
  split at o
  · rename_i z
    simp only [RepV, RepD] at rx
    exact ⟨z, rx.1, o m H _ .refl rel (by simp only [RepV, RepD])⟩
  · exact o.elim
theorem le_tin {x : Str} {t : List (Str × D)} {p : Pos} (neg : Bool) (h : TabOk X.K X.w X.mg x t) (hg : Gl X x) (hd : (x == ("__debug__" : Str)) = false) (ha : PE X a (LE g fa)) (hm : behindInMarks (if neg = true then .NotIn else .In) (.Name x p) = false) :
    PE X (.Compare a [if neg = true then .NotIn else .In] [.Name x p] pos) (LE g fun en st => (fa en st).bind (kTin neg t)) := by
  obtain ⟨d, h1, op⟩ := tin_op neg h
  refine pe_weak (pe_cmpR op ha (pe_glob (v := .ref d) hg h1 rfl hd) hm) ?_
  rintro σ H Q ⟨m, en, st, rel, re, out⟩
  exact ⟨m, en, st, rel, re, Out.bind out fun y st1 m1 H1 v e1 x1 l1 rx o1 => ⟨rfl, out_tin l1 rx o1 _ _⟩⟩
theorem lt_tin {x : Str} {t : List (Str × D)} {p : Pos} (neg : Bool) (h : TabOk X.K X.w X.mg x t) (hg : Gl X x) (hd : (x == ("__debug__" : Str)) = false) (ha : PE X a (LE g fa)) (hm : behindInMarks (if neg = true then .NotIn else .In) (.Name x p) = false) :
    PT X (.Compare a [if neg = true then .NotIn else .In] [.Name x p] pos) (LT g (tt fun en st => (fa en st).bind (kTin neg t))) := by
  obtain ⟨d, h1, op⟩ := tin_op neg h
  refine pt_weak (pt_cmpR op ha (pe_glob (v := .ref d) hg h1 rfl hd) hm) ?_
  rintro σ H Q ⟨m, en, st, rel, re, out⟩
  unfold tt at out
  simp only [bind_assoc] at out
  refine ⟨m, en, st, rel, re, Out.bind out fun y st1 m1 H1 v e1 x1 l1 rx o1 => ⟨rfl, ?_⟩⟩
  unfold kTin at o1
  split at o1
  · rename_i z
    simp only [RepV, RepD] at rx
    exact ⟨z, rx.1, _, rfl, o1 m1 H1 _ .refl l1 rfl⟩
  · exact o1.elim
theorem le_tget {x : Str} {t : List (Str × D)} {p : Pos} (hK : g.K = X.K) (h : TabOk X.K X.w X.mg x t) (hg : Gl X x) (hd : (x == ("__debug__" : Str)) = false) (ha : PE X a (LE g fa)) (hs : NoSl a) :
    PE X (.Subscript (.Name x p) a pos) (LE g fun en st => (fa en st).bind (kTget t)) := by
  obtain ⟨d, es, n, h1, D, h2⟩ := h
  refine ⟨fun pins s σ H Q I h => ?_⟩
  obtain ⟨m, en, st, rel, re, out⟩ := h
  refine subD_of PySem.F.slot_dict_getitem.lookup hs (thn ((pe_glob (v := .ref d) (pos := p) hg h1 rfl hd).run pins s σ H (fun v H' => v = .ref d ∧ H' = H) I ⟨rfl, rfl⟩) fun u s1 ⟨x', H1, I1, rx, e1, e2⟩ => ?_)
  subst e1 e2
  cases rx
  have R : LE g fa σ H1 (fun v H2 => ∃ z dd m2 st2, v = .str z ∧ t.lookup z = some dd ∧ Rel g.K m2 st2 H2 ∧ Out g m2 H2 σ (RepV g.K) Q (.ok (.d dd) st2)) := by
    refine ⟨m, en, st, rel, re, Out.bind out fun y st1 m1 H1 v e1 x1 l1 rx o1 => ?_⟩
    unfold kTget at o1
    split at o1
    · rename_i z
      simp only [RepV, RepD] at rx
      unfold give at o1
      split at o1
      · rename_i dd hdd
        exact ⟨z, dd, m1, st1, rx.1, hdd, l1, o1⟩
      · exact o1.elim
    · exact o1.elim
  refine thn (ha.run pins s1 σ H1 _ I1 R) fun iv s2 ⟨y, H2, I2, ry, z, dd, m2, st2, e1, e2, l2, o2⟩ => ?_
  subst e1
  refine ⟨kd_type D I2, ?_⟩
  rcases h2 z with ⟨f1, _⟩ | ⟨d2, u0, v0, f1, f2, f3, f4⟩
  · rw [e2] at f1; cases f1
  · rw [e2] at f1; cases f1
    refine op_item_kd D pins s2 σ H2 (.ref d) (.str z) _ _ Q I2 rfl ry ⟨z, u0, v0, rfl, rfl, f2, f3, o2 m2 H2 v0 .refl l2 ?_⟩
    simp only [RepV]
    rw [hK]
    exact f4 _
/-- the entries of a table -/
inductive TabE (w : World) (K : PySem.W.Frag) : List DictEntry → List (Str × D) → Prop
  | nil : TabE w K [] []
  | cons {x : Str} {tk : Tok} {u : Value} {v : V} {dd : D} {hh : Int} {r : List DictEntry} {t : List (Str × D)} (h : hh = PyData.keyHash w.params x) (rv : RelV v u) (rd : ∀ H, RepD K H dd v) (tl : TabE w K r t) : TabE w K (⟨hh, .str x tk, u⟩ :: r) ((x, dd) :: t)
theorem TabE.lit {w : World} {K : PySem.W.Frag} : ∀ {es : List DictEntry} {t : List (Str × D)}, TabE w K es t → PySem.W.KeysLit w.params es
  | _, _, .nil => trivial
  | _, _, .cons h _ _ tl => ⟨⟨_, _, rfl, h⟩, tl.lit⟩
theorem TabE.noref {w : World} {K : PySem.W.Frag} : ∀ {es : List DictEntry} {t : List (Str × D)}, TabE w K es t → es.any (·.refKey) = false
  | _, _, .nil => rfl
  | _, _, .cons h _ _ tl => by rw [List.any_cons, tl.noref]; rfl
theorem TabE.find {w : World} {K : PySem.W.Frag} (z : Str) : ∀ {es : List DictEntry} {t : List (Str × D)}, TabE w K es t → (t.lookup z = none ∧ es.find? (·.key.isStr z) = none) ∨ ∃ dd e v, t.lookup z = some dd ∧ es.find? (·.key.isStr z) = some e ∧ RelV v e.val ∧ ∀ H, RepD K H dd v
  | _, _, .nil => .inl ⟨rfl, rfl⟩
  | _, _, .cons (x := x) (tk := tk) (u := u) (hh := hh) (r := r) (t := t) (dd := dd) (v := v) h rv rd tl => by
    by_cases e : x = z
    · subst e
      refine .inr ⟨dd, ⟨hh, .str x tk, u⟩, v, by simp [List.lookup], ?_, rv, rd⟩
      rw [List.find?_cons_of_pos]
      show (x == x) = true
      simp
    · have e1 : (z == x) = false := by simp; exact fun q => e q.symm
      have e2 : ((⟨hh, .str x tk, u⟩ : DictEntry).key.isStr z) = false := by
        show (x == z) = false
        simp; exact e
      rw [List.find?_cons_of_neg (by rw [e2]; simp)]
      simp only [List.lookup, e1]
      exact TabE.find z tl
theorem tab_of {w : World} {K : PySem.W.Frag} {mg : Str → Option Value} {x : Str} {d : Addr} {es : Array DictEntry} {n : Nat} {t : List (Str × D)} (hx : mg x = some (.ref d)) (hl : K.lookup d = some ⟨.type "dict", none, .dict es n, #[]⟩) (hs : (d == sysModules) = false) (h : TabE w K es.toList t) : TabOk K w mg x t := by
  refine ⟨d, es, n, hx, ⟨hl, h.lit, hs⟩, fun z => ?_⟩
  have e : PySem.W.nsIn K d z = (match es.toList.find? (·.key.isStr z) with | some e => some (some e.val) | none => if es.toList.any (·.refKey) then none else some none) := by
    unfold PySem.W.nsIn
    rw [hl]
    rfl
  rcases h.find z with ⟨h1, h2⟩ | ⟨dd, e', v, h1, h2, h3, h4⟩
  · exact .inl ⟨h1, by rw [e, h2]; simp [h.noref]⟩
  · exact .inr ⟨dd, e'.val, v, h1, by rw [e, h2], h3, h4⟩
end TW
namespace TW
open PySem PySem.Spec PyProof.Rows L2
variable {X : Cx} {g : Gx} {a b c e tg : Expr} {es : List Expr} {pos : Pos} {fa fb fc : En → Sto → R Vv} {fr fk : En → Sto → R (List Vv)}

/-! ### calls of one's own defs -/
inductive ArrV (K : PySem.W.Frag) (all : List Value) : List (Nat ⊕ D) → List Value → Prop
  | nil : ArrV K all [] []
  | pos {i r z zs} : all[i]? = some z → ArrV K all r zs → ArrV K all (.inl i :: r) (z :: zs)
  | dft {d v r z zs} : RelV v z → (∀ H, RepD K H d v) → ArrV K all r zs → ArrV K all (.inr d :: r) (z :: zs)
theorem repvs_get {K : PySem.W.Frag} {m : Mp} {H : Hp} {y : Vv} : ∀ {xs : List Vv} {vs : List V} {i : Nat}, RepVs K m H xs vs → xs[i]? = some y → ∃ v, vs[i]? = some v ∧ RepV K m H y v := by
  intro xs vs i h
  induction h generalizing i with
  | nil => intro z; simp at z
  | cons p q ih =>
    cases i with
    | zero => intro z; simp at z; subst z; exact ⟨_, rfl, p⟩
    | succ j => intro z; simpa using ih (by simpa using z)
theorem arr_rep {K : PySem.W.Frag} {m : Mp} {H : Hp} {xs : List Vv} {vs : List V} {all : List Value} (rx : RepVs K m H xs vs) (rv : Vals vs all) : ∀ {ord : List (Nat ⊕ D)} {zs : List Value} {ys : List Vv}, ArrV K all ord zs → arrD ord xs = some ys → ∃ ws, RepVs K m H ys ws ∧ Vals ws zs := by
  intro ord zs ys h
  induction h generalizing ys with
  | nil => intro e; simp only [arrD, Option.some.injEq] at e; subst e; exact ⟨[], .nil, .nil⟩
  | @pos i r z zs h1 _ ih =>
    intro e
    simp only [arrD] at e
    split at e
    · rename_i x ys' hx hy
      cases e
      obtain ⟨ws, k1, k2⟩ := ih hy
      obtain ⟨v, k3, k4⟩ := repvs_get rx hx
      obtain ⟨u, k5, k6⟩ := rv.get k3
      rw [h1] at k5
      cases k5
      exact ⟨v :: ws, .cons k4 k1, .cons k6 k2⟩
    · cases e
  | @dft d v r z zs h1 h2 _ ih =>
    intro e
    simp only [arrD] at e
    split at e <;> cases e
    rename_i ys' hy
    obtain ⟨ws, k1, k2⟩ := ih hy
    exact ⟨v :: ws, .cons (h2 _) k1, .cons h1 k2⟩
structure Pat where
  name : Str
  npos : Nat
  ks : List Str
  fn : Nat
  ord : List (Nat ⊕ D)
/-- what a call of this pattern leans on -/
def PatOk (X : Cx) (k : Nat) (F : Fs) (p : Pat) : Prop := ∃ (f : Addr) (fd : FuncData) (ps : List Str), X.mg p.name = some (.ref f) ∧ PySem.W.keepIn X.K (.ref f) = true ∧
  FnOk X.prog X.w X.K X.mg X.base (L2.CX X.prog X.w) k f fd ps (spD X.K X.mg ps.length (F p.fn)) ∧ p.ord.length = ps.length ∧
  ∀ (s : Shared) (us ws : List Value), X.K.In s.heap → us.length = p.npos → ws.length = p.ks.length → ∃ zs, BindsTo s fd ⟨us, p.ks.zip ws⟩ (ps.zip zs) ∧ ArrV X.K (us ++ ws) p.ord zs
theorem arr_len {ord : List (Nat ⊕ D)} : ∀ {xs ys : List Vv}, arrD ord xs = some ys → ys.length = ord.length := by
  induction ord with
  | nil => intro xs ys e; simp only [arrD, Option.some.injEq] at e; subst e; rfl
  | cons o r ih =>
    intro xs ys e
    cases o with
    | inl i =>
      simp only [arrD] at e
      split at e <;> cases e
      rename_i h1 h2
      simp [ih h2]
    | inr d =>
      simp only [arrD] at e
      split at e <;> cases e
      rename_i h2
      simp [ih h2]
theorem run_own {k : Nat} {F : Fs} {p : Pat} (hp : PatOk X k F p) (hr : Room k X.A) (hK : g.K = X.K) (hmg : g.mg = X.mg) (tk : Takes X g.W) {pins : List (Addr × Obj)} {σ : L2.St} {H : Hp} {s : Shared} {Q : VK} {us ws : List Value} {vs zs : List V} {m : Mp} {st : Sto} {xs ys : List Vv}
    (hl : us.length = p.npos) (hk : ws.length = p.ks.length) (I : Inv X pins σ H s) (rv : Vals vs us) (rz : Vals zs ws) (rel : Rel g.K m st H) (rx : RepVs g.K m H xs vs) (ry : RepVs g.K m H ys zs)
    (out : Out g m H σ (RepV g.K) Q (match arrD p.ord (xs ++ ys) with | some as => F p.fn as st | none => .stuck)) :
    ∀ f, X.mg p.name = some (.ref f) → wpAny (model X.prog X.w) X.A (call (.ref f) us (p.ks.zip ws)) (EP X pins σ Q) X.xe s := by
  intro f0 hf0
  obtain ⟨f, fd, ps, hf, hkp, FO, hol, hb⟩ := hp
  rw [hf] at hf0
  cases hf0
  obtain ⟨bs, hB, hA⟩ := hb s us ws I.kIn hl hk
  split at out
  · rename_i as ha
    have rall : RepVs g.K m H (xs ++ ys) (vs ++ zs) := by
      have : ∀ {xs : List Vv} {vs : List V}, RepVs g.K m H xs vs → RepVs g.K m H (xs ++ ys) (vs ++ zs) := by
        intro xs vs h
        induction h with
        | nil => exact ry
        | cons p q ih => exact .cons p ih
      exact this rx
    rw [← hK] at hA
    obtain ⟨cs, k1, k2⟩ := arr_rep rall (rv.append rz) hA ha
    have hlen : as.length = ps.length := by rw [arr_len ha]; exact hol
    have spx := sp_call (g := g) (σ := σ) (n := ps.length) (f := F p.fn) rel k1 hlen out
    rw [hK, hmg] at spx
    refine wpAny_call (codeAny_mono (FO.run X.A X.stack s H ⟨us, p.ks.zip ws⟩ bs cs Q _ hr I.env0 hB k2 spx) fun r s' hq => ?_)
    cases r with
    | error e => exact passAt tk σ pins H s e s' I hq
    | ok fl =>
      cases fl with
      | ret u => exact I.after hq
      | next => exact False.elim hq
      | brk => exact False.elim hq
      | cont => exact False.elim hq
  · exact out.elim
/-! keywords -/
def kwNames (kws : List Keyword) : List Str := kws.filterMap (·.arg)
theorem kw_all : ∀ {kws : List Keyword} (h : kws.all (·.arg.isSome) = true) (env : Env) (p : Pos), (backToKw p (keywordEach kws env)).all (·.1.isSome) = true
  | [], _, _, _ => rfl
  | ⟨n, v, q⟩ :: kws, h, env, p => by
    simp only [List.all_cons, Bool.and_eq_true] at h
    have := kw_all h.2 env p
    simp only [keywordEach, backToKw, List.map_cons, List.all_cons, Bool.and_eq_true] at this ⊢
    exact ⟨h.1, this⟩
theorem kw_any {kws : List Keyword} (h : kws.all (·.arg.isSome) = true) (env : Env) (p : Pos) : (backToKw p (keywordEach kws env)).any (·.1.isNone) = false := by
  have := kw_all h env p
  rw [List.all_eq_true] at this
  rw [List.any_eq_false]
  intro x hx
  have := this x hx
  cases hq : x.1 with
  | none => rw [hq] at this; cases this
  | some _ => simp
theorem kw_names : ∀ (kws : List Keyword) (env : Env) (p : Pos), (backToKw p (keywordEach kws env)).filterMap (·.1) = kwNames kws
  | [], _, _ => rfl
  | ⟨n, v, q⟩ :: kws, env, p => by
    have := kw_names kws env p
    simp only [keywordEach, backToKw, List.map_cons, List.filterMap_cons, kwNames] at this ⊢
    cases n with
    | none => exact this
    | some b => exact congrArg (b :: ·) this
def LK := LA
theorem pk_weak {kws : List Keyword} {t t' : TA} (h : PK X kws t) (k : ∀ σ H Q, t' σ H Q → t σ H Q) : PK X kws t' := ⟨fun pos pins s σ H Q I q => h.run pos pins s σ H Q I (k σ H Q q)⟩
theorem lk_nil : PK X [] (LA g fun _ st => .ok [] st) := by
  refine pk_weak pk_nil ?_
  rintro σ H Q ⟨m, en, st, rel, re, out⟩
  exact out m H [] .refl rel .nil
theorem lk_cons {nm : Option Str} {kp : Pos} {kws : List Keyword} (ha : PE X a (LE g fa)) (hr : PK X kws (LA g fr)) : PK X (⟨nm, a, kp⟩ :: kws) (LA g fun en st => (fa en st).bind fun x st => (fr en st).bind fun xs st => .ok (x :: xs) st) := by
  refine pk_weak (pk_cons ha hr) ?_
  rintro σ H Q ⟨m, en, st, rel, re, out⟩
  refine ⟨m, en, st, rel, re, Out.bind out fun x st1 m1 H1 v e1 x1 l1 rx o1 => ?_⟩
  refine ⟨m1, en, st1, l1, re.ext x1, Out.bind o1 fun y st2 m2 H2 w e2 x2 l2 ry o2 => ?_⟩
  exact o2 m2 H2 (v :: w) .refl l2 (.cons (rx.ext x2) ry)
theorem repvs_ext {K : PySem.W.Frag} {m m' : Mp} {H H' : Hp} (e : Ext m H m' H') {xs : List Vv} {vs : List V} (h : RepVs K m H xs vs) : RepVs K m' H' xs vs := by
  induction h with
  | nil => exact .nil
  | cons p q ih => exact .cons (p.ext e) ih
/-- evaluations give as many values as there are expressions -/
def Len (n : Nat) (f : En → Sto → R (List Vv)) : Prop := ∀ en st xs st', f en st = .ok xs st' → xs.length = n
theorem le_own {k : Nat} {F : Fs} {p : Pat} {q : Pos} {kws : List Keyword} (hp : PatOk X k F p) (hr : Room k X.A) (hK : g.K = X.K) (hmg : g.mg = X.mg) (tk : Takes X g.W) (hg : Gl X p.name) (hdb : (p.name == ("__debug__" : Str)) = false)
    (ha : PA X es (LA g fr)) (hk : PK X kws (LA g fk)) (hs : es.all noStar = true) (hkw : kws.all (·.arg.isSome) = true) (hn : kwNames kws = p.ks) (l1 : Len p.npos fr) (l2 : Len p.ks.length fk) (he : es.length = p.npos) (hz : es = [] → ∀ en st, fr en st = .ok [] st) :
    PE X (.Call (.Name p.name q) es kws pos) (LE g fun en st => (fr en st).bind fun vs st => (fk en st).bind fun ws st => match arrD p.ord (vs ++ ws) with | some xs => F p.fn xs st | none => .stuck) := by
  refine ⟨fun pins s σ H Q I h => ?_⟩
  have hp' := hp
  obtain ⟨f, fd, ps, hf, hkp, _⟩ := hp'
  obtain ⟨m, en, st, rel, re, out⟩ := h
  refine wpAny_Call_Name_kw (ld_glob I hg hf ?_ hdb)
  have hnames := kw_names kws X.env pos
  have hall := kw_all hkw X.env pos
  -- the keywords, then the call
  have key : ∀ (us : List Value) (s1 : Shared) (vs : List V) (xs : List Vv) (H1 : Hp) (m1 : Mp) (st1 : Sto), us.length = p.npos → Inv X pins σ H1 s1 → Vals vs us → Ext m H m1 H1 → Rel g.K m1 st1 H1 → RepVs g.K m1 H1 xs vs →
      Out g m1 H1 σ (RepV g.K) Q ((fk en st1).bind fun ws st => match arrD p.ord (xs ++ ws) with | some xs => F p.fn xs st | none => .stuck) →
      wpAny (model X.prog X.w) X.A (evalAll ((backToKw pos (keywordEach kws X.env)).map (·.2))) (fun ks s₂ => X.K.In s₂.heap ∧ wpAny (model X.prog X.w) X.A (call (.ref f) us (((backToKw pos (keywordEach kws X.env)).filterMap (·.1)).zip ks)) (EP X pins σ Q) X.xe s₂) X.xe s1 := by
    intro us s1 vs xs H1 m1 st1 hul I1 rv x1 r1 rx o1
    have R : LA g fk σ H1 (fun zs H2 => ∃ (m2 : Mp) (st2 : Sto) (ys : List Vv), zs.length = p.ks.length ∧ Rel g.K m2 st2 H2 ∧ RepVs g.K m2 H2 xs vs ∧ RepVs g.K m2 H2 ys zs ∧ Out g m2 H2 σ (RepV g.K) Q (match arrD p.ord (xs ++ ys) with | some as => F p.fn as st2 | none => .stuck)) := by
      refine ⟨m1, en, st1, r1, re.ext x1, Out.bind o1 fun ys st2 m2 H2 zs e2 x2 r2 ry o2 => ?_⟩
      exact ⟨m2, st2, ys, by rw [← Paired.length ry]; exact l2 _ _ _ _ e2, r2, repvs_ext x2 rx, ry, o2⟩
    refine thn (hk.run pos pins s1 σ H1 _ I1 R) fun ws s2 ⟨zs, H2, I2, rz, m2, st2, ys, hz, r2, rx2, ry2, o2⟩ => ⟨I2.kIn, ?_⟩
    rw [hnames, hn]
    exact run_own hp hr hK hmg tk hul (by rw [← rz.length]; exact hz) I2 rv rz r2 rx2 ry2 o2 f hf
  cases es with
  | nil =>
    refine PySem.W.callWith_KW0 (h₀ := X.base) I.ok.mod.kin hkp hall ?_ (by rw [kw_any hkw]; rfl)
    simp only [List.nil_append]
    dsimp only at out
    rw [hz rfl, bind_ok] at out
    exact key [] s [] [] H m st he I .nil .refl rel .nil out
  | cons e es =>
    have hs' := hs
    simp only [List.all_cons, Bool.and_eq_true] at hs'
    refine PySem.W.callWith_KW (h₀ := X.base) I.ok.mod.kin hkp hall ?_ (by rw [star_any hs, kw_any hkw]; rfl) (star_cons hs'.1 X.env)
    have R : LA g fr σ H (fun vs H1 => ∃ (m1 : Mp) (st1 : Sto) (xs : List Vv), vs.length = p.npos ∧ Ext m H m1 H1 ∧ Rel g.K m1 st1 H1 ∧ RepVs g.K m1 H1 xs vs ∧ Out g m1 H1 σ (RepV g.K) Q ((fk en st1).bind fun ws st => match arrD p.ord (xs ++ ws) with | some xs => F p.fn xs st | none => .stuck)) := by
      refine ⟨m, en, st, rel, re, Out.bind out fun xs st1 m1 H1 vs e1 x1 r1 rx o1 => ?_⟩
      exact ⟨m1, st1, xs, by rw [← Paired.length rx]; exact l1 _ _ _ _ e1, x1, r1, rx, o1⟩
    refine thn (ha.run pos pins s σ H _ I R) fun us s1 ⟨vs, H1, I1, rv, m1, st1, xs, hv, x1, r1, rx, o1⟩ => ?_
    exact key us s1 vs xs H1 m1 st1 (by rw [← rv.length]; exact hv) I1 rv x1 r1 rx o1
end TW
namespace TW
open PySem PySem.Spec PyProof.Rows L2

/-! ### the text's names resolved -/
structure Cfg where
  N : List Str
  sc : Scope
  top : Bool
  ownc : List Str
  gl : List (Str × D)
  bl : List Str
  pats : List Pat
  nw : List Str
  rn : Bool
  tb : List (Str × List (Str × D))
def isGl (c : Cfg) (x : Str) : Bool := match c.sc.names.lookup x with | some .globalImplicit => true | _ => false
def isVis (c : Cfg) (x : Str) : Bool := match c.sc.names.lookup x with | some .local => true | some .cell => true | some .free => true | _ => false
def stOk (c : Cfg) (x : Str) : Bool := match c.sc.names.lookup x with | some .local => true | some .cell => c.top || c.ownc.contains x | _ => false
def plainName (x : Str) : Bool := !(x == ("__debug__" : Str)) && !(x == ("__classdict__" : Str))
def tyTab : List (Str × String) := [("int", "int"), ("str", "str"), ("bool", "bool"), ("tuple", "tuple"), ("list", "list"), ("dict", "dict")]
def cName (c : Cfg) (x : Str) : Option E :=
  if plainName x then
    if isVis c x then (match c.N.idxOf? x with | some i => some (.var i) | none => none)
    else if isGl c x then (match c.gl.lookup x with
      | some d => some (.con d)
      | none => none)
    else none
  else none
def cConst : Const → Option D
  | .int i => some (.int i)
  | .bool b => some (.bl b)
  | .none => some .non
  | .str s => if s.length ≤ 10000 ∧ s.cps.all (· < 0x110000) then some (.str s) else none
  | _ => none
def bfTab : List (Str × Bf) := [("len", .len), ("abs", .abs), ("max", .max2), ("min", .min2), ("divmod", .divmod), ("all", .all), ("any", .any), ("tuple", .tupleOf), ("list", .listOf), ("int", .intOf)]
def mfTab : List (Str × Mf) := [("join", .join), ("upper", .upper), ("append", .append)]
def cList (f : Expr → Option E) : List Expr → Option Es
  | [] => some .nil
  | e :: es => match f e, cList f es with | some a, some r => some (.cons a r) | _, _ => none
def cKws (f : Expr → Option E) : List Keyword → Option Es
  | [] => some .nil
  | ⟨some _, e, _⟩ :: es => match f e, cKws f es with | some a, some r => some (.cons a r) | _, _ => none
  | _ => none
def cOpt (f : Expr → Option E) : Option Expr → Option Eo
  | none => some .none
  | some e => match f e with | some a => some (.some a) | none => none
def cBool (f : Expr → Option E) (op : BoolOp) : List Expr → Option E
  | [] => none
  | [a] => f a
  | a :: b :: r => match f a, cBool f op (b :: r) with
    | some x, some y => some (match op with | .And => .and x y | .Or => .or x y)
    | _, _ => none
def findPat (c : Cfg) (x : Str) (n : Nat) (ks : List Str) : Option Pat := c.pats.find? fun p => decide (p.name = x) && decide (p.npos = n) && decide (p.ks = ks)
/-- a test -/
def tOk : Nat → Expr → Bool
  | 0, _ => false
  | n + 1, .BoolOp _ vs _ => vs.all (tOk n)
  | n + 1, .UnaryOp .Not v _ => tOk n v
  | _ + 1, .IfExp .. => false
  | _ + 1, .Compare _ ops _ _ => ops.length == 1 || ops.length == 2
  | _ + 1, _ => true
def cCall (c : Cfg) (f : Expr → Option E) (x : Str) (as : List Expr) (ks : List Keyword) : Option E :=
  if isGl c x && plainName x && as.all noStar then
    match findPat c x as.length (kwNames ks) with
    | some p => match cList f as, cKws f ks with | some a, some k => some (.call p.fn a k p.ord) | _, _ => none
    | none => if ks.isEmpty && !as.isEmpty && c.bl.contains x then (match bfTab.lookup x with
      | some b => (match cList f as with | some a => some (.blt b a) | none => none)
      | none => none) else none
  else none
def cMeth (f : Expr → Option E) (o : Expr) (m : Str) (ap pos : Pos) (as : List Expr) : Option E :=
  if plainBase o && ap.endLine == pos.line && as.all noStar && decide (as.length < 20) then
    match mfTab.lookup m, f o, cList f as with | some mf, some a, some r => some (.meth mf a r) | _, _, _ => none
  else none
def owOk (ow : Option (List Nat)) (i : Nat) : Bool := match ow with | none => true | some l => l.contains i
def slotsOf (c : Cfg) (ow : Option (List Nat)) : List Str → Option (List Nat)
  | [] => some []
  | x :: xs => if stOk c x then (match c.N.idxOf? x, slotsOf c ow xs with
      | some i, some r => if owOk ow i then some (i :: r) else none
      | _, _ => none) else none
/-- targets; ow: the slots that may be set -/
def cTg (c : Cfg) (f : Expr → Option E) (ow : Option (List Nat)) : Nat → Expr → Option Tg
  | 0, _ => none
  | n + 1, e => match e with
    | .Name x _ => if stOk c x then (match c.N.idxOf? x with
        | some i => if owOk ow i then some (.name i) else none
        | none => none) else none
    | .Tuple es _ _ => if es.all noStar then (match cTgs (cTg c f ow n) es with | some ts => some (.tup ts) | none => none) else
        (match starNames es with
        | some (xs, y) => (match slotsOf c ow xs, slotsOf c ow [y] with | some is, some [j] => some (.star is j (c.nw.contains y)) | _, _ => none)
        | none => none)
    | .Subscript o i _ => if plainSub i then (match f o, f i with | some a, some b => some (.sub a b) | _, _ => none) else none
    | _ => none
where cTgs (t : Expr → Option Tg) : List Expr → Option Tgs
  | [] => some .nil
  | e :: es => match t e, cTgs t es with | some a, some r => some (.cons a r) | _, _ => none
def noSet : Expr → Bool
  | .Set _ _ _ => false
  | _ => true
def isTupT : Expr → Bool
  | .Tuple _ _ _ => true
  | _ => false
/-- the keywords of a zip -/
def zipKw : List Keyword → Option Bool
  | [] => some false
  | [⟨some x, .Constant (.bool true) _ _, _⟩] => if decide (x = "strict") then some true else none
  | _ => none
def cIt (c : Cfg) (f : Expr → Option E) (tg e : Expr) : Option Ir :=
  if noSet e then
    match e with
    | .Call (.Name x _) [a] [] _ =>
      if decide (x = "range") && isGl c x && c.bl.contains x && noStar a then (match f a with | some i => some (.range1 i) | none => none)
      else if decide (x = "enumerate") && isGl c x && c.bl.contains x && noStar a && isTupT tg then (match f a with | some i => some (.enum i) | none => none)
      else (match f e with | some i => some (.val i) | none => none)
    | .Call (.Name x _) [a, b] ks _ =>
      if decide (x = "zip") then
        (if isGl c x && c.bl.contains x && [a, b].all noStar && isTupT tg then
          (match zipKw ks, cList f [a, b] with | some q, some r => some (.zip q r) | _, _ => none) else none)
      else (match f e with | some i => some (.val i) | none => none)
    | e => match f e with | some i => some (.val i) | none => none
  else none
def ownOf (N : List Str) (scope : Scope) : List (Str × Nat) := scope.names.filterMap fun y => match y.2 with
  | .local => (N.idxOf? y.1).map fun i => (y.1, i)
  | .cell => (N.idxOf? y.1).map fun i => (y.1, i)
  | _ => none
def isAdd : Operator → Bool
  | .Add => true
  | _ => false
/-- what gives a new list -/
def freshI : E → Bool
  | .lst _ => true
  | .lc _ _ _ _ _ => true
  | .bin op _ _ => isAdd op
  | .slc _ _ _ => true
  | .blt f _ => match f with | .listOf => true | _ => false
  | _ => false
def cfgB (c : Cfg) (scope : Scope) : Cfg := { c with sc := relS scope c.sc, top := false, ownc := (scope.names.filter fun y => match y.2 with | .cell => true | _ => false).map (·.1) }
def ifsOk (n : Nat) : List Expr → Bool
  | [] => true
  | [t] => tOk n t
  | _ => false
/-- a table of the module by its name -/
def tabOf (c : Cfg) (e : Expr) : Option (Str × List (Str × D)) := match e with
  | .Name x _ => if isGl c x && plainName x then (match c.tb.lookup x with | some t => some (x, t) | none => none) else none
  | _ => none
def isIn : CmpOp → Option Bool
  | .In => some false
  | .NotIn => some true
  | _ => none
/-- isinstance(a, T) -/
def isiOf (c : Cfg) (x : Str) (as : List Expr) (ks : List Keyword) : Option (Expr × Str × String) := match as, ks with
  | [a, .Name t _], [] => if decide (x = "isinstance") && isGl c x && c.bl.contains x && noStar a && isGl c t && plainName t && c.bl.contains t then
      (match tyTab.lookup t with | some s => some (a, t, s) | none => none) else none
  | _, _ => none
def cPairs (f : Expr → Option E) : List (Option Expr) → List Expr → Option Es
  | [], [] => some .nil
  | some k :: ks, v :: vs => match f k, f v, cPairs f ks vs with | some a, some b, some r => some (.cons a (.cons b r)) | _, _, _ => none
  | _, _ => none
def cE1 (f : Cfg → Expr → Option E) (n : Nat) (c : Cfg) (e : Expr) : Option E := match e with
    | .Name x _ => cName c x
    | .Constant k _ _ => match cConst k with | some d => some (.con d) | none => none
    | .BinOp a op b _ => match f c a, f c b with | some x, some y => some (.bin op x y) | _, _ => none
    | .UnaryOp op a _ => match op, f c a with
      | .Not, some x => some (.not x)
      | .USub, some x => some (.neg x)
      | _, _ => none
    | .BoolOp op vs _ => cBool (f c) op vs
    | .Compare a [op] [b] _ => if behindInMarks op b then none else match tabOf c b, isIn op with
      | some (_, t), some neg => (match f c a with | some x => some (.tin neg t x) | none => none)
      | _, _ => (match f c a, f c b with | some x, some y => some (.cmp op x y) | _, _ => none)
    | .Compare a [p, q] [b, d] _ => if lastMarks [p, q] [b, d] then none else (match f c a, f c b, f c d with | some x, some y, some z => some (.chain p q x y z) | _, _, _ => none)
    | .IfExp t a b _ => if tOk n t then (match f c t, f c a, f c b with | some x, some y, some z => some (.ite x y z) | _, _, _ => none) else none
    | .Call (.Name x _) as ks _ => match isiOf c x as ks with
      | some (a, _, s) => (match f c a with | some y => some (.isi y s) | none => none)
      | none => cCall c (f c) x as ks
    | .Call (.Attribute o m ap) as [] pos => cMeth (f c) o m ap pos as
    | .Tuple es _ _ => if es.all noStar then (match cList (f c) es with | some r => some (.tup r) | none => none) else none
    | .List es _ => if es.all noStar then (match cList (f c) es with | some r => some (.lst r) | none => none) else none
    | .Dict [] [] _ => some .dct0
    | .Dict ks vs _ => if decide (ks.length ≤ 15) && !ks.isEmpty then (match cPairs (f c) ks vs with | some r => some (.dcd r) | none => none) else none
    | .Subscript a (.Slice lo hi none _) _ => match f c a, cOpt (f c) lo, cOpt (f c) hi with | some x, some l, some h => some (.slc x l h) | _, _, _ => none
    | .Subscript a b _ => if plainIx b then (match tabOf c a with
        | some (_, t) => (match f c b with | some y => some (.tget t y) | none => none)
        | none => (match f c a, f c b with | some x, some y => some (.idx x y) | _, _ => none)) else none
    | .ListComp elt [⟨tg, iter, ifs, 0⟩] scope _ =>
      if blkC c.N c.sc scope (ownOf c.N scope) && ifsOk n ifs then
        (match cIt c (f c) tg iter, cTg (cfgB c scope) (f (cfgB c scope)) (some ((ownOf c.N scope).map (·.2))) 4 tg, cList (f (cfgB c scope)) ifs, f (cfgB c scope) elt with
          | some i, some t, some r, some x => some (.lc x t i r ((ownOf c.N scope).map (·.2)))
          | _, _, _, _ => none)
      else none
    | _ => none
def orNope : Option E → E
  | some x => x
  | none => .nope
/-- what isn't known here is .nope: nothing is said of it -/
def cE : Nat → Cfg → Expr → Option E
  | 0, _, _ => some .nope
  | n + 1, c, e => some (orNope (cE1 (cE n) n c e))
end TW
namespace TW
open PySem PySem.Spec PyProof.Rows L2

structure Good (X : Cx) (c : Cfg) (g : Gx) (k : Nat) (F : Fs) : Prop where
  hN : X.N = c.N
  nd : c.N.Nodup
  sc : X.env.scope = c.sc
  calm : X.calm = true
  K : g.K = X.K
  mg : g.mg = X.mg
  tk : Takes X g.W
  room : Room k X.A
  gl : ∀ x d, c.gl.lookup x = some d → ∃ u v, X.mg x = some u ∧ RelV v u ∧ ∀ H, RepD X.K H d v
  bl : ∀ x ∈ c.bl, X.mg x = none
  pats : ∀ p ∈ c.pats, PatOk X k F p
  top : c.top = true → ∀ x, X.fn x = true
  ownc : ∀ x ∈ c.ownc, X.fn x = true
  tb : ∀ x t, c.tb.lookup x = some t → TabOk X.K X.w X.mg x t
variable {X : Cx} {c : Cfg} {g : Gx} {k : Nat} {F : Fs}
theorem Good.hu (G : Good X c g k F) : X.A.units + 64 < cLine := by have := G.room.un; omega
theorem isGl_of (G : Good X c g k F) {x : Str} (h : isGl c x = true) : Gl X x := by
  unfold isGl at h
  show X.env.scope.names.lookup x = some .globalImplicit
  rw [G.sc]
  split at h
  · assumption
  · cases h
theorem isVis_of (G : Good X c g k F) {x : Str} (h : isVis c x = true) : Vis X.env.scope x := by
  unfold isVis at h
  unfold Vis
  rw [G.sc]
  split at h
  · exact .inl (by assumption)
  · exact .inr (.inl (by assumption))
  · exact .inr (.inr (by assumption))
  · cases h
theorem stOk_of (G : Good X c g k F) {x : Str} (h : stOk c x = true) : L2.Loc X.env.scope x ∧ (X.fn x = true ∨ X.env.scope.names.lookup x = some .local) := by
  unfold stOk at h
  unfold L2.Loc
  rw [G.sc]
  split at h
  · exact ⟨.inl (by assumption), .inr (by assumption)⟩
  · refine ⟨.inr (by assumption), .inl ?_⟩
    rw [Bool.or_eq_true] at h
    rcases h with h | h
    · exact G.top h x
    · exact G.ownc x (by simpa using h)
  · cases h
theorem idx_of (G : Good X c g k F) {x : Str} {i : Nat} (h : c.N.idxOf? x = some i) : X.N[i]? = some x := by
  rw [G.hN]
  rw [List.idxOf?, List.findIdx?_eq_some_iff_getElem] at h
  obtain ⟨hl, h1, _⟩ := h
  rw [List.getElem?_eq_getElem hl]
  have : c.N[i] = x := by simpa using h1
  rw [this]
theorem plain_of {x : Str} (h : plainName x = true) : (x == ("__debug__" : Str)) = false ∧ (x == ("__classdict__" : Str)) = false := by
  unfold plainName at h
  simp only [Bool.and_eq_true, Bool.not_eq_true'] at h
  exact h
theorem tyTab_boot : tyTab.all (fun y => decide (bootBuiltins y.1 = some (.type y.2)) && decide (y.1 ≠ "__name__") && tyOk y.2) = true := by decide +kernel
theorem mem_of_lookup {β : Type} {x : Str} {b : β} : ∀ {l : List (Str × β)}, l.lookup x = some b → (x, b) ∈ l
  | [], h => by cases h
  | (y, b') :: r, h => by
    simp only [List.lookup_cons] at h
    split at h
    · rename_i hy
      cases h
      have : x = y := by simpa using hy
      subst this
      exact List.mem_cons_self
    · exact List.mem_cons_of_mem _ (mem_of_lookup h)
theorem snd_name (G : Good X c g k F) {x : Str} {pos : Pos} {ir : E} (h : cName c x = some ir) : PE X (.Name x pos) (LE g (evE F ir)) := by
  unfold cName at h
  split at h
  · rename_i hp
    obtain ⟨p1, p2⟩ := plain_of hp
    split at h
    · rename_i hv
      split at h <;> cases h
      rename_i i hi
      exact le_var (idx_of G hi) (isVis_of G hv) p1 p2
    · split at h
      · rename_i hg
        split at h
        · rename_i d hd
          cases h
          obtain ⟨u, v, h1, h2, h3⟩ := G.gl x d hd
          exact le_con (pe_glob (isGl_of G hg) h1 h2 p1) (by rw [G.K]; exact h3)
        · cases h
      · cases h
  · cases h
theorem snd_const {k' : Const} {n : Nat} {pos : Pos} {d : D} (h : cConst k' = some d) : PE X (.Constant k' n pos) (LE g (evE F (.con d))) := by
  unfold cConst at h
  split at h
  · cases h; exact le_con pe_int (by intro H; simp only [RepD])
  · cases h; exact le_con pe_bl (by intro H; simp only [RepD])
  · cases h; exact le_con pe_non (by intro H; simp only [RepD])
  · split at h <;> cases h
    rename_i hs
    exact le_con pe_str (by intro H; simp only [RepD]; exact ⟨trivial, by rw [sizeLine_eq]; omega, hs.2⟩)
  · cases h
/-- the induction's promise for the parts -/
def SE (n : Nat) : Prop := ∀ (X : Cx) (c : Cfg) (g : Gx) (k : Nat) (F : Fs), Good X c g k F → ∀ (e : Expr) (ir : E), cE n c e = some ir → PE X e (LE g (evE F ir)) ∧ (freshI ir = true → PE X e (LF g (evE F ir))) ∧ (∀ j, tOk j e = true → PT X e (LT g (tt (evE F ir))))
theorem snd_list {n : Nat} (S : SE n) (G : Good X c g k F) : ∀ {es : List Expr} {r : Es}, cList (cE n c) es = some r → es.all noStar = true → PA X es (LA g (evEs F r)) ∧ Len es.length (evEs F r)
  | [], r, h, _ => by
    simp only [cList, Option.some.injEq] at h
    subst h
    refine ⟨la_nil, fun en st xs st' e => ?_⟩
    simp only [evEs] at e
    cases e
    rfl
  | e :: es, r, h, hs => by
    simp only [cList] at h
    split at h <;> cases h
    rename_i a r h1 h2
    simp only [List.all_cons, Bool.and_eq_true] at hs
    obtain ⟨ih, il⟩ := snd_list S G h2 hs.2
    refine ⟨la_cons (S X c g k F G e a h1).1 ih (star_cons hs.1 X.env), fun en st xs st' e' => ?_⟩
    simp only [evEs] at e'
    cases q1 : evE F a en st with
    | ok x st1 =>
      rw [q1, bind_ok] at e'
      cases q2 : evEs F r en st1 with
      | ok ys st2 =>
        rw [q2, bind_ok] at e'
        cases e'
        simp [il _ _ _ _ q2]
      | exc _ _ => rw [q2] at e'; cases e'
      | stuck => rw [q2] at e'; cases e'
    | exc _ _ => rw [q1] at e'; cases e'
    | stuck => rw [q1] at e'; cases e'
theorem snd_kws {n : Nat} (S : SE n) (G : Good X c g k F) : ∀ {ks : List Keyword} {r : Es}, cKws (cE n c) ks = some r → PK X ks (LA g (evEs F r)) ∧ Len ks.length (evEs F r) ∧ ks.all (·.arg.isSome) = true ∧ (kwNames ks).length = ks.length
  | [], r, h => by
    simp only [cKws, Option.some.injEq] at h
    subst h
    refine ⟨lk_nil, fun en st xs st' e => ?_, rfl, rfl⟩
    simp only [evEs] at e
    cases e
    rfl
  | ⟨none, e, p⟩ :: es, r, h => by simp only [cKws] at h; cases h
  | ⟨some nm, e, p⟩ :: es, r, h => by
    simp only [cKws] at h
    split at h <;> cases h
    rename_i a r h1 h2
    obtain ⟨ih, il, ia, in'⟩ := snd_kws S G h2
    refine ⟨lk_cons (S X c g k F G e a h1).1 ih, fun en st xs st' e' => ?_, by simpa using ia, by simp only [kwNames, List.filterMap_cons, List.length_cons] at in' ⊢; rw [in']⟩
    simp only [evEs] at e'
    cases q1 : evE F a en st with
    | ok x st1 =>
      rw [q1, bind_ok] at e'
      cases q2 : evEs F r en st1 with
      | ok ys st2 =>
        rw [q2, bind_ok] at e'
        cases e'
        simp [il _ _ _ _ q2]
      | exc _ _ => rw [q2] at e'; cases e'
      | stuck => rw [q2] at e'; cases e'
    | exc _ _ => rw [q1] at e'; cases e'
    | stuck => rw [q1] at e'; cases e'
theorem snd_bool {n : Nat} (S : SE n) (G : Good X c g k F) {op : BoolOp} {pos : Pos} : ∀ {vs : List Expr} {ir : E}, cBool (cE n c) op vs = some ir → PE X (.BoolOp op vs pos) (LE g (evE F ir)) ∧ (freshI ir = true → PE X (.BoolOp op vs pos) (LF g (evE F ir))) ∧ (∀ j, vs.all (tOk j) = true → PW X (.BoolOp op vs pos) (LT g (tt (evE F ir))))
  | [], _, h => by cases h
  | [a], ir, h => by
    simp only [cBool] at h
    have s := S X c g k F G a ir h
    refine ⟨le_one s.1, fun hf => pe_one (s.2.1 hf), fun j hj => lw_one (s.2.2 j (by simpa using hj))⟩
  | a :: b :: r, ir, h => by
    simp only [cBool] at h
    split at h <;> cases h
    rename_i x y h1 h2
    have s := S X c g k F G a x h1
    obtain ⟨i1, _, i2⟩ := snd_bool S G h2
    cases op with
    | And =>
      refine ⟨le_and G.K s.1 i1, fun hf => (nomatch hf), fun j hj => ?_⟩
      have hj' : tOk j a = true ∧ (b :: r).all (tOk j) = true := by simpa using hj
      exact lw_and (s.2.2 j hj'.1) (i2 j hj'.2)
    | Or =>
      refine ⟨le_or G.K s.1 i1, fun hf => (nomatch hf), fun j hj => ?_⟩
      have hj' : tOk j a = true ∧ (b :: r).all (tOk j) = true := by simpa using hj
      exact lw_or (s.2.2 j hj'.1) (i2 j hj'.2)
theorem bfTab_name : bfTab.all (fun y => decide (y.1 = bfName y.2)) = true := by decide +kernel
theorem mfTab_name : mfTab.all (fun y => decide (y.1 = mfName y.2)) = true := by decide +kernel
theorem snd_tab (G : Good X c g k F) {e : Expr} {x : Str} {t : List (Str × D)} (h : tabOf c e = some (x, t)) : ∃ p, e = .Name x p ∧ Gl X x ∧ (x == ("__debug__" : Str)) = false ∧ TabOk X.K X.w X.mg x t := by
  unfold tabOf at h
  split at h
  · rename_i y p
    split at h
    · rename_i hc
      rw [Bool.and_eq_true] at hc
      split at h <;> cases h
      rename_i ht
      exact ⟨p, rfl, isGl_of G hc.1, (plain_of hc.2).1, G.tb _ _ ht⟩
    · cases h
  · cases h
theorem snd_pairs {n : Nat} (S : SE n) (G : Good X c g k F) {pos : Pos} : ∀ {ks : List (Option Expr)} {vs : List Expr} {r : Es}, cPairs (cE n c) ks vs = some r → ∃ fs, PPs X pos ks vs (fs.map fun f => (LE g f.1, LE g f.2)) ∧ ks.all (·.isSome) = true ∧ ks.length = vs.length ∧ ∀ en st, prs fs en st = evEs F r en st
  | [], [], r, h => by
    simp only [cPairs, Option.some.injEq] at h
    subst h
    exact ⟨[], pps_nil, rfl, rfl, fun en st => by simp only [prs, evEs]⟩
  | [], _ :: _, r, h => by simp [cPairs] at h
  | none :: _, _, r, h => by simp [cPairs] at h
  | some _ :: _, [], r, h => by simp [cPairs] at h
  | some a :: ks, b :: vs, r, h => by
    unfold cPairs at h
    split at h <;> cases h
    rename_i x y z h1 h2 h3
    obtain ⟨fs, q1, q2, q3, q4⟩ := snd_pairs S G h3
    refine ⟨(evE F x, evE F y) :: fs, pps_cons (S X c g k F G _ x h1).1 (S X c g k F G _ y h2).1 q1, by simpa using q2, by simp [q3], fun en st => ?_⟩
    simp only [prs, evEs, q4]
    cases evE F x en st with
    | exc _ _ => rfl
    | stuck => rfl
    | ok v s1 =>
      simp only [bind_ok]
      cases evE F y en s1 with
      | exc _ _ => rfl
      | stuck => rfl
      | ok w s2 =>
        simp only [bind_ok]
        cases evEs F z en s2 with
        | exc _ _ => rfl
        | stuck => rfl
        | ok ws s3 => rfl
theorem snd_isi {n : Nat} (S : SE n) (G : Good X c g k F) {x t : Str} {as : List Expr} {ks : List Keyword} {p pos : Pos} {a : Expr} {s : String} {y : E} (h : isiOf c x as ks = some (a, t, s)) (hy : cE n c a = some y) : PE X (.Call (.Name x p) as ks pos) (LE g (evE F (.isi y s))) := by
  unfold isiOf at h
  split at h
  · split at h
    · rename_i hc
      split at h <;> cases h
      rename_i ht
      simp only [Bool.and_eq_true, decide_eq_true_eq] at hc
      obtain ⟨⟨⟨⟨⟨⟨rfl, h1⟩, h2⟩, h3⟩, h4⟩, h5⟩, h6⟩ := hc
      have hm := List.all_eq_true.mp tyTab_boot _ (mem_of_lookup ht)
      simp only [Bool.and_eq_true, decide_eq_true_eq] at hm
      exact le_isi G.K (isGl_of G h1) (G.bl _ (by simpa using h2)) (S X c g k F G _ y hy).1 (star_cons h3 _) (star_any (es := [.Name _ _]) rfl _ _) (star_cons rfl _) (pe_bltn (isGl_of G h4) (G.bl _ (by simpa using h6)) hm.1.1 rfl hm.1.2 (plain_of h5).1) hm.2
    · cases h
  · cases h
theorem snd_call {n : Nat} (S : SE n) (G : Good X c g k F) {x : Str} {as : List Expr} {ks : List Keyword} {p pos : Pos} {ir : E} (h : cCall c (cE n c) x as ks = some ir) : PE X (.Call (.Name x p) as ks pos) (LE g (evE F ir)) ∧ (freshI ir = true → PE X (.Call (.Name x p) as ks pos) (LF g (evE F ir))) := by
  unfold cCall at h
  split at h
  · rename_i hc
    simp only [Bool.and_eq_true] at hc
    obtain ⟨⟨hg, hp⟩, hs⟩ := hc
    split at h
    · rename_i pt hpt
      split at h <;> cases h
      rename_i a kk h1 h2
      have hf := List.find?_some hpt
      have hm := List.mem_of_find?_eq_some hpt
      simp only [Bool.and_eq_true, decide_eq_true_eq] at hf
      obtain ⟨⟨f1, f2⟩, f3⟩ := hf
      subst f1
      obtain ⟨pa, pl⟩ := snd_list S G h1 hs
      obtain ⟨pk, kl, ka, kn⟩ := snd_kws S G h2
      refine ⟨le_own (G.pats pt hm) G.room G.K G.mg G.tk (isGl_of G hg) (plain_of hp).1 pa pk hs ka f3.symm (by rw [f2]; exact pl) (by rw [f3, kn]; exact kl) f2.symm fun hz en st => ?_, fun hf => (nomatch hf)⟩
      subst hz
      simp only [cList, Option.some.injEq] at h1
      subst h1
      simp only [evEs]
    · split at h
      · rename_i hq
        simp only [Bool.and_eq_true, List.isEmpty_iff] at hq
        obtain ⟨⟨hk, ha⟩, hbl⟩ := hq
        subst hk
        split at h
        · rename_i b hb
          split at h <;> cases h
          rename_i a h1
          have hm := List.all_eq_true.mp bfTab_name _ (mem_of_lookup hb)
          have hm : x = bfName b := by simpa using hm
          subst hm
          cases as with
          | nil => cases ha
          | cons e es =>
            refine ⟨le_blt G.K G.calm b (isGl_of G hg) (G.bl _ (by simpa using hbl)) (snd_list S G h1 hs).1 hs, fun hf => ?_⟩
            cases b <;> first | (cases hf; done) | exact lf_list G.K (isGl_of G hg) (G.bl _ (by have z := hbl; simp at z; exact z)) (snd_list S G h1 hs).1 hs
        · cases h
      · cases h
  · cases h
theorem snd_meth {n : Nat} (S : SE n) (G : Good X c g k F) {o : Expr} {m : Str} {as : List Expr} {ap pos : Pos} {ir : E} (h : cMeth (cE n c) o m ap pos as = some ir) : PE X (.Call (.Attribute o m ap) as [] pos) (LE g (evE F ir)) := by
  unfold cMeth at h
  split at h
  · rename_i hc
    simp only [Bool.and_eq_true, decide_eq_true_eq] at hc
    obtain ⟨⟨⟨hb, hl⟩, hs⟩, hn⟩ := hc
    split at h <;> cases h
    rename_i mf a r hm h1 h2
    have hm := List.all_eq_true.mp mfTab_name _ (mem_of_lookup hm)
    have hm : m = mfName mf := by simpa using hm
    subst hm
    have s := (S X c g k F G o a h1).1
    cases as with
    | nil =>
      simp only [cList, Option.some.injEq] at h2
      subst h2
      exact le_meth0 G.K mf s hb hl
    | cons e es => exact le_meth G.K mf s (snd_list S G h2 hs).1 hs (by simp at hn; omega) hb hl
  · cases h
theorem own_ix {N : List Str} {scope : Scope} : True := trivial
theorem snd_opt {n : Nat} (S : SE n) (G : Good X c g k F) {o : Option Expr} {r : Eo} (h : cOpt (cE n c) o = some r) : PO X o (LO g (evO F r)) := by
  cases o with
  | none => simp only [cOpt, Option.some.injEq] at h; subst h; exact lo_none
  | some e =>
    simp only [cOpt] at h
    split at h <;> cases h
    rename_i a h1
    exact lo_some (S X c g k F G e a h1).1
theorem evGs_len (F : Fs) : ∀ {ts : Tgs} {es : List Expr} {t : Expr → Option Tg}, cTg.cTgs t es = some ts → ∀ (xs : List D) (en : En) (st : Sto) (en' : En) (st' : Sto), evGs F ts xs en st = .ok en' st' → xs.length = es.length
  | .nil, [], _, h, xs, en, st, en', st', e => by
    cases xs with
    | nil => rfl
    | cons _ _ => simp only [evGs] at e; cases e
  | .nil, _ :: _, _, h, _, _, _, _, _, _ => by simp only [cTg.cTgs] at h; split at h <;> cases h
  | .cons t r, [], _, h, _, _, _, _, _, _ => by simp only [cTg.cTgs] at h; cases h
  | .cons t r, e1 :: es, f, h, xs, en, st, en', st', e => by
    simp only [cTg.cTgs] at h
    split at h <;> cases h
    rename_i h2
    cases xs with
    | nil => simp only [evGs] at e; cases e
    | cons x xs =>
      simp only [evGs] at e
      cases q : evG F t (.d x) en st with
      | ok en2 st2 =>
        rw [q, bind_ok] at e
        simp [evGs_len F h2 xs en2 st2 en' st' e]
      | exc _ _ => rw [q] at e; cases e
      | stuck => rw [q] at e; cases e
theorem slots_of (G : Good X c g k F) {ow : Option (List Nat)} {own : Nat → Prop} (ho : ∀ i, owOk ow i = true → own i) : ∀ {xs : List Str} {is : List Nat}, slotsOf c ow xs = some is → Paired (Slot1 X) xs is ∧ ∀ i ∈ is, own i
  | [], is, h => by
    simp only [slotsOf, Option.some.injEq] at h
    subst h
    exact ⟨.nil, fun i hi => (nomatch hi)⟩
  | x :: xs, is, h => by
    unfold slotsOf at h
    split at h
    · rename_i hs
      split at h
      · rename_i i r hi hr
        split at h <;> cases h
        rename_i hw
        obtain ⟨k1, k2⟩ := slots_of G ho hr
        obtain ⟨s1, s2⟩ := stOk_of G hs
        refine ⟨.cons ⟨idx_of G hi, s1, s2⟩ k1, fun j hj => ?_⟩
        rcases List.mem_cons.mp hj with rfl | hj
        · exact ho _ hw
        · exact k2 j hj
      · cases h
    · cases h
/-- targets: the cfg c, the slots that may be set -/
theorem snd_tg {n : Nat} (S : SE n) (G : Good X c g k F) {ow : Option (List Nat)} {own : Nat → Prop} (ho : ∀ i, owOk ow i = true → own i) : ∀ {j : Nat} {e : Expr} {t : Tg}, cTg c (cE n c) ow j e = some t → PG X e (LG g own (evG F t)) := by
  intro j
  induction j with
  | zero => intro e t h; cases h
  | succ j ih =>
    intro e t h
    unfold cTg at h
    split at h
    · split at h
      · rename_i hs
        split at h
        · rename_i i hi
          split at h <;> cases h
          rename_i hw
          obtain ⟨s1, s2⟩ := stOk_of G hs
          exact lg_name (by rw [G.hN]; exact G.nd) (idx_of G hi) s1 s2 (ho i hw)
        · cases h
      · cases h
    · split at h
      · rename_i es _ _ hs
        split at h <;> cases h
        rename_i ts ht
        have key : ∀ {es : List Expr} {ts : Tgs}, es.all noStar = true → cTg.cTgs (cTg c (cE n c) ow j) es = some ts → PGs X es (LGs g own (evGs F ts)) := by
          intro es
          induction es with
          | nil =>
            intro ts _ h
            simp only [cTg.cTgs, Option.some.injEq] at h
            subst h
            refine pgs_weak (lgs_nil (g := g) (own := own)) ?_
            rintro v σ H Q ⟨m, en, st, xs, rel, re, rx, out⟩
            refine ⟨m, en, st, xs, rel, re, rx, ?_⟩
            cases xs with
            | nil => simp only [evGs] at out; exact out
            | cons _ _ => simp only [evGs] at out; exact out.elim
          | cons e es ih2 =>
            intro ts hs h
            simp only [List.all_cons, Bool.and_eq_true] at hs
            simp only [cTg.cTgs] at h
            split at h <;> cases h
            rename_i h1 h2
            refine pgs_weak (lgs_cons (ih h1) (ih2 hs.2 h2) hs.1) ?_
            rintro v σ H Q ⟨m, en, st, xs, rel, re, rx, out⟩
            refine ⟨m, en, st, xs, rel, re, rx, ?_⟩
            cases xs with
            | nil => simp only [evGs] at out; exact out.elim
            | cons _ _ => simp only [evGs] at out; exact out
        refine pg_weak (lg_tup G.K G.calm (key hs ht) hs fun xs en st en' st' e => evGs_len F ht xs en st en' st' e) ?_
        rintro v σ H Q ⟨m, en, st, x, rel, re, rx, out⟩
        refine ⟨m, en, st, x, rel, re, rx, ?_⟩
        simp only [evG] at out
        exact out
      · split at h
        · rename_i xs y hst
          split at h <;> cases h
          rename_i is j h1 h2
          obtain ⟨k1, k2⟩ := slots_of G ho h1
          obtain ⟨k3, k4⟩ := slots_of G ho h2
          cases k3 with
          | cons k3 _ =>
            refine pg_weak (lg_star G.K G.calm (by rw [G.hN]; exact G.nd) (c.nw.contains y) hst k1 k3 k2 (k4 j (by simp))) ?_
            rintro v σ H Q ⟨m, en, st, x, rel, re, rx, out⟩
            refine ⟨m, en, st, x, rel, re, rx, ?_⟩
            simp only [evG] at out
            exact out
        · cases h
    · split at h
      · rename_i hs
        split at h <;> cases h
        rename_i a b h1 h2
        exact lg_sub G.K (S X c g k F G _ a h1).1 (S X c g k F G _ b h2).1 hs
      · cases h
    · cases h
theorem folded {e : Expr} (h : noSet e = true) (env : Env) : ∀ x, foldedSetIterable e env x = pure x := by
  intro x
  cases e <;> first | rfl | cases h
theorem snd_it {n : Nat} (S : SE n) (G : Good X c g k F) {tg e : Expr} {r : Ir} (h : cIt c (cE n c) tg e = some r) : PI X tg e (LI g (evI F r)) ∧ ∀ x, foldedSetIterable e X.env x = pure x := by
  unfold cIt at h
  split at h
  · rename_i hs
    refine ⟨?_, folded hs X.env⟩
    split at h
    · rename_i x p a pos
      split at h
      · rename_i hc
        simp only [Bool.and_eq_true, decide_eq_true_eq] at hc
        obtain ⟨⟨⟨rfl, h2⟩, h3⟩, h4⟩ := hc
        split at h <;> cases h
        rename_i i h5
        exact li_range1 (isGl_of G h2) (G.bl _ (by simpa using h3)) (la_cons (S X c g k F G a i h5).1 la_nil (star_cons h4 X.env)) h4
      · split at h
        · rename_i hc
          simp only [Bool.and_eq_true, decide_eq_true_eq] at hc
          obtain ⟨⟨⟨⟨rfl, h2⟩, h3⟩, h4⟩, h6⟩ := hc
          split at h <;> cases h
          rename_i i h5
          cases tg <;> first | (cases h6; done) | exact li_enum G.K (isGl_of G h2) (G.bl _ (by simpa using h3)) (la_cons (S X c g k F G a i h5).1 la_nil (star_cons h4 X.env)) h4
        · split at h <;> cases h
          rename_i i h5
          exact li_val G.K (S X c g k F G _ i h5).1
    · rename_i x p a b ks pos
      split at h
      · rename_i hx
        have hx : x = "zip" := by simpa using hx
        subst hx
        split at h
        · rename_i hc
          simp only [Bool.and_eq_true] at hc
          obtain ⟨⟨⟨h2, h3⟩, h4⟩, h6⟩ := hc
          split at h <;> cases h
          rename_i q r hq hr
          have h4' : [a, b].all noStar = true := by simpa using h4
          have la := (snd_list S G hr h4').1
          cases tg <;> first
            | (cases h6; done)
            | (unfold zipKw at hq
               split at hq
               · cases hq
                 exact li_zip (q := false) (ck := 0) (cp := pos) (kp := pos) G.K (isGl_of G h2) (G.bl _ (by simpa using h3)) la h4'
               · split at hq
                 · rename_i hx
                   have hx := of_decide_eq_true hx
                   subst hx
                   cases hq
                   exact li_zip (q := true) G.K (isGl_of G h2) (G.bl _ (by simpa using h3)) la h4'
                 · cases hq
               · cases hq)
        · cases h
      · split at h <;> cases h
        rename_i i h5
        exact li_val G.K (S X c g k F G _ i h5).1
    · split at h <;> cases h
      rename_i i h5
      exact li_val G.K (S X c g k F G _ i h5).1
  · cases h
end TW
namespace TW
open PySem PySem.Spec PyProof.Rows L2
variable {X : Cx} {c : Cfg} {g : Gx} {k : Nat} {F : Fs}

theorem lookup_of_uniq {names : List (Str × NameKind)} (h : ∀ y ∈ names, names.lookup y.1 = some y.2) {x : Str} {kd : NameKind} (hm : (x, kd) ∈ names) : names.lookup x = some kd := h _ hm
/-- the block's own context -/
theorem Good.blk (G : Good X c g k F) {scope : Scope} {own : List (Str × Nat)} (ok : BlkOk X.N X.env.scope scope own) (s : Shared) (H : Hp) (C : Addr) (cl : List (Str × Addr)) (fp : List Addr) : Good (X.blk s H scope (compEnvC scope cl C X.env) fp) (cfgB c scope) g.quiet k F where
  hN := G.hN
  nd := G.nd
  sc := by rw [show (X.blk s H scope (compEnvC scope cl C X.env) fp).env.scope = relS scope X.env.scope from rfl, G.sc]; rfl
  calm := G.calm
  K := G.K
  mg := G.mg
  tk := takes0
  room := G.room
  gl := G.gl
  bl := G.bl
  pats := G.pats
  tb := G.tb
  top := fun h => nomatch h
  ownc := fun x hx => by
    obtain ⟨y, hy, rfl⟩ := List.mem_map.mp hx
    obtain ⟨h1, h2⟩ := List.mem_filter.mp hy
    show (scope.names.lookup y.1 == some .cell) = true
    rw [ok.uniq y h1]
    split at h2
    · rename_i e; rw [e]; rfl
    · cases h2
def plainT : Expr → Bool
  | .UnaryOp .Not _ _ => false
  | .BoolOp _ _ _ => false
  | .Compare _ _ _ _ => false
  | .IfExp _ _ _ _ => false
  | _ => true
theorem plainT_ok {e : Expr} (h : plainT e = true) (env : Env) : ∀ whole, isTrue e env whole = (do let v ← whole; standAt e.pos; holding [v] (truthy v)) := by
  intro whole
  cases e with
  | UnaryOp op _ _ => cases op <;> first | rfl | cases h
  | BoolOp _ _ _ => cases h
  | Compare _ _ _ _ => cases h
  | IfExp _ _ _ _ => cases h
  | _ => rfl
theorem lt_one {fa : En → Sto → R Vv} : (fun en st => (fa en st).bind fun x st => (truV x st).bind fun k st => if k = true then R.ok true st else R.ok false st) = tt fa := by
  funext en st
  unfold tt
  cases fa en st with
  | ok x st1 =>
    simp only [bind_ok]
    cases truV x st1 with
    | ok k st2 => cases k <;> rfl
    | exc _ _ => rfl
    | stuck => rfl
  | exc _ _ => rfl
  | stuck => rfl
theorem snd_lc {n : Nat} (S : SE n) (G : Good X c g k F) {elt tg iter : Expr} {ifs : List Expr} {scope : Scope} {i : Ir} {t : Tg} {r : Es} {x : E} (hb : blkC c.N c.sc scope (ownOf c.N scope) = true) (hif : ifsOk n ifs = true)
    (h1 : cIt c (cE n c) tg iter = some i) (h2 : cTg (cfgB c scope) (cE n (cfgB c scope)) (some ((ownOf c.N scope).map (·.2))) 4 tg = some t) (h3 : cList (cE n (cfgB c scope)) ifs = some r) (h4 : cE n (cfgB c scope) elt = some x) :
    ∃ (wi : TI) (gg : TG) (t1 : TT) (te : TE), PI X tg iter wi ∧ BlkOk X.N X.env.scope scope (ownOf c.N scope) ∧
      (∀ (s : Shared) (H : Hp) (C : Addr) (cl : List (Str × Addr)) (fp : List Addr), PG (X.blk s H scope (compEnvC scope cl C X.env) fp) tg gg) ∧
      (∀ (s : Shared) (H : Hp) (C : Addr) (cl : List (Str × Addr)) (fp : List Addr), PTs (X.blk s H scope (compEnvC scope cl C X.env) fp) ifs t1) ∧
      (∀ (s : Shared) (H : Hp) (C : Addr) (cl : List (Str × Addr)) (fp : List Addr), PE (X.blk s H scope (compEnvC scope cl C X.env) fp) elt te) ∧ (∀ x, foldedSetIterable iter X.env x = pure x) ∧
      ∀ σ H Q, LF g (evE F (.lc x t i r ((ownOf c.N scope).map (·.2)))) σ H Q → tLc wi gg t1 te ((ownOf c.N scope).map (·.2)) σ H Q := by
        have ok : BlkOk X.N X.env.scope scope (ownOf c.N scope) := by rw [G.hN, G.sc]; exact blkOk_by hb
        have hN : X.N.Nodup := by rw [G.hN]; exact G.nd
        obtain ⟨pi, hs⟩ := snd_it S G (tg := tg) h1
        have hgB := fun s H C cl fp => snd_tg (own := (· ∈ (ownOf c.N scope).map (·.2))) S (G.blk ok s H C cl fp) (fun i hi => by simpa [owOk] using hi) h2
        have heB := fun s H C cl fp => (S _ _ _ _ _ (G.blk ok s H C cl fp) elt x h4).1
        have htB : ∀ (s : Shared) (H : Hp) (C : Addr) (cl : List (Str × Addr)) (fp : List Addr), PTs (X.blk s H scope (compEnvC scope cl C X.env) fp) ifs (LT g.quiet (evT F r)) := by
          intro s H C cl fp
          have GB := G.blk ok s H C cl fp
          cases ifs with
          | nil =>
            simp only [cList, Option.some.injEq] at h3
            subst h3
            refine ⟨fun pins s σ H Q I hw => pts_nil.run pins s σ H Q I ?_⟩
            obtain ⟨m, en, st, rel, re, out⟩ := hw
            exact out m H true .refl rel rfl
          | cons t1 ts =>
            cases ts with
            | nil =>
              simp only [cList] at h3
              split at h3
              · rename_i a r' q1 q2
                cases q2
                cases h3
                have := pts_one ((S _ _ _ _ _ GB t1 a q1).2.2 n hif)
                rw [← lt_one] at this
                refine ⟨fun pins s σ H Q I hw => this.run pins s σ H Q I ?_⟩
                obtain ⟨m, en, st, rel, re, out⟩ := hw
                exact ⟨m, en, st, rel, re, by simpa only [evT] using out⟩
              · cases h3
            | cons _ _ => cases hif
        exact ⟨_, _, _, _, pi, ok, hgB, htB, heB, hs, fun σ H Q hq => lf_lc G.K G.calm hN pi ok hgB htB heB hs σ H Q hq⟩
theorem nope_E {e : Expr} : PE X e (LE g (evE F .nope)) ∧ (freshI .nope = true → PE X e (LF g (evE F .nope))) ∧ (∀ j, tOk j e = true → PT X e (LT g (tt (evE F .nope)))) := by
  refine ⟨⟨fun pins s σ H Q I h => ?_⟩, fun h => (nomatch h), fun j _ => ⟨fun pins s σ H Q I h => ?_⟩⟩
  · obtain ⟨m, en, st, _, _, out⟩ := h
    exact out.elim
  · obtain ⟨m, en, st, _, _, out⟩ := h
    exact out.elim
theorem snd_step {n : Nat} (S : SE n) : ∀ (X : Cx) (c : Cfg) (g : Gx) (k : Nat) (F : Fs), Good X c g k F → ∀ (e : Expr) (ir : E), cE1 (cE n) n c e = some ir → PE X e (LE g (evE F ir)) ∧ (freshI ir = true → PE X e (LF g (evE F ir))) ∧ (∀ j, tOk j e = true → PT X e (LT g (tt (evE F ir)))) := by
    intro X c g k F G e ir h
    -- a plain expression, its list not new
    have plain : ∀ {e : Expr} {ir : E}, PE X e (LE g (evE F ir)) → plainT e = true → freshI ir = false → PE X e (LE g (evE F ir)) ∧ (freshI ir = true → PE X e (LF g (evE F ir))) ∧ (∀ j, tOk j e = true → PT X e (LT g (tt (evE F ir)))) :=
      fun {e ir} p hp hf => ⟨p, fun z => (by rw [hf] at z; cases z), fun j _ => lt_plain G.K p (plainT_ok hp X.env)⟩
    have plainF : ∀ {e : Expr} {ir : E}, PE X e (LF g (evE F ir)) → plainT e = true → PE X e (LE g (evE F ir)) ∧ (freshI ir = true → PE X e (LF g (evE F ir))) ∧ (∀ j, tOk j e = true → PT X e (LT g (tt (evE F ir)))) :=
      fun {e ir} p hp => ⟨le_of_lf p, fun _ => p, fun j _ => lt_plain G.K (le_of_lf p) (plainT_ok hp X.env)⟩
    unfold cE1 at h
    split at h
    · -- a name
      refine plain (snd_name G h) rfl ?_
      unfold cName at h
      split at h
      · split at h
        · split at h <;> cases h; rfl
        · split at h
          · split at h
            · cases h; rfl
            · cases h
          · cases h
      · cases h
    · split at h <;> cases h
      rename_i d hd
      exact plain (snd_const hd) rfl rfl
    · split at h <;> cases h
      rename_i x y h1 h2
      exact plainF (lf_bin G.K (S X c g k F G _ x h1).1 (S X c g k F G _ y h2).1) rfl
    · split at h
      · rename_i x h1
        cases h
        have s := S X c g k F G _ x h1
        refine ⟨le_not G.K s.1, fun hf => (nomatch hf), fun j hj => ?_⟩
        cases j with
        | zero => cases hj
        | succ j => exact lt_not (s.2.2 j (by simpa only [tOk] using hj))
      · rename_i x h1
        cases h
        exact plain (le_neg (S X c g k F G _ x h1).1) rfl rfl
      · cases h
    · refine ⟨(snd_bool S G h).1, (snd_bool S G h).2.1, fun j hj => ?_⟩
      cases j with
      | zero => cases hj
      | succ j => exact ((snd_bool S G h).2.2 j (by simpa only [tOk] using hj)).pt
    · split at h
      · cases h
      · rename_i hm
        have hm' := Bool.eq_false_iff.mpr hm
        split at h
        · rename_i z t neg ht hn
          split at h <;> cases h
          rename_i x h1
          have s1 := (S X c g k F G _ x h1).1
          obtain ⟨p, rfl, k1, k2, k3⟩ := snd_tab G ht
          rename CmpOp => op
          have e : op = (if neg = true then CmpOp.NotIn else .In) := by
            cases op <;> simp only [isIn, Option.some.injEq, reduceCtorEq] at hn <;> subst hn <;> rfl
          subst e
          exact ⟨le_tin neg k3 k1 k2 s1 hm', fun hf => (nomatch hf), fun _ _ => lt_tin neg k3 k1 k2 s1 hm'⟩
        · split at h <;> cases h
          rename_i x y h1 h2
          have s1 := (S X c g k F G _ x h1).1
          have s2 := (S X c g k F G _ y h2).1
          exact ⟨le_cmp G.K G.hu s1 s2 hm', fun hf => (nomatch hf), fun _ _ => lt_cmp G.K G.hu s1 s2 hm'⟩
    · split at h
      · cases h
      · rename_i hm
        split at h <;> cases h
        rename_i x y z h1 h2 h3
        have s1 := (S X c g k F G _ x h1).1
        have s2 := (S X c g k F G _ y h2).1
        have s3 := (S X c g k F G _ z h3).1
        have hm' := Bool.eq_false_iff.mpr hm
        exact ⟨le_chain G.K G.hu s1 s2 s3 hm', fun hf => (nomatch hf), fun _ _ => lt_chain G.K G.hu s1 s2 s3 hm'⟩
    · split at h
      · rename_i ht
        split at h <;> cases h
        rename_i x y z h1 h2 h3
        refine ⟨le_ite ((S X c g k F G _ x h1).2.2 n ht) (S X c g k F G _ y h2).1 (S X c g k F G _ z h3).1, fun hf => (nomatch hf), fun j hj => ?_⟩
        cases j <;> cases hj
      · cases h
    · split at h
      · rename_i hi
        split at h <;> cases h
        rename_i hy
        exact plain (snd_isi S G hi hy) rfl rfl
      · exact ⟨(snd_call S G h).1, (snd_call S G h).2, fun j _ => lt_plain G.K (snd_call S G h).1 (plainT_ok rfl X.env)⟩
    · have p := snd_meth S G h
      refine plain p rfl ?_
      unfold cMeth at h
      split at h
      · split at h <;> cases h; rfl
      · cases h
    · split at h
      · rename_i hs
        split at h <;> cases h
        rename_i r h1
        exact plain (le_tup (snd_list S G h1 hs).1) rfl rfl
      · cases h
    · split at h
      · rename_i hs
        split at h <;> cases h
        rename_i r h1
        exact plainF (lf_lst (snd_list S G h1 hs).1) rfl
      · cases h
    · cases h
      refine plain (pe_weak pe_dnewK ?_) rfl rfl
      rintro σ H Q ⟨m, en, st, rel, re, out⟩
      intro d hd
      refine out m _ _ (rel.ext_fresh hd) (rel.fresh hd) ?_
      simp only [RepV, RepD]
      exact ⟨d, [], rfl, hm_some.mpr ⟨rel.fresh_ne hd, upd_same⟩, rfl, .nil⟩
    · split at h
      · rename_i hc
        simp only [Bool.and_eq_true, decide_eq_true_eq] at hc
        split at h <;> cases h
        rename_i ks vs dpos _ _ r h1
        obtain ⟨fs, q1, q2, q3, q4⟩ := snd_pairs (pos := dpos) S G h1
        refine plain ?_ rfl rfl
        have := le_disp q1 q2 q3 (fun e => by rw [e] at hc; simp at hc) hc.1
        simpa only [evE, q4] using this
      · cases h
    · split at h <;> cases h
      rename_i x l hh h1 h2 h3
      exact plainF (lf_slc G.K (S X c g k F G _ x h1).1 (snd_opt S G h2) (snd_opt S G h3)) rfl
    · split at h
      · rename_i hs
        split at h
        · rename_i z t ht
          split at h <;> cases h
          rename_i y h1
          obtain ⟨p, rfl, k1, k2, k3⟩ := snd_tab G ht
          exact plain (le_tget G.K k3 k1 k2 (S X c g k F G _ y h1).1 (ix_ok hs)) rfl rfl
        · split at h <;> cases h
          rename_i x y h1 h2
          exact plain (le_idx G.K G.hu (S X c g k F G _ x h1).1 (S X c g k F G _ y h2).1 hs) rfl rfl
      · cases h
    · rename_i elt tg iter ifs scope pos
      split at h
      · rename_i hb
        rw [Bool.and_eq_true] at hb
        obtain ⟨hb, hif⟩ := hb
        split at h <;> cases h
        rename_i i t r x h1 h2 h3 h4
        have hN : X.N.Nodup := by rw [G.hN]; exact G.nd
        obtain ⟨wi, gg, t1, te, pi, ok, hgB, htB, heB, hs, im⟩ := snd_lc S G hb hif h1 h2 h3 h4
        exact plainF (pe_weak (pe_lc (own := ownOf c.N scope) G.calm hN pi ok hgB htB heB hs) im) rfl
      · cases h
    · cases h
theorem snd_all : ∀ n, SE n
  | 0 => fun X c g k F G e ir h => by
    simp only [cE, Option.some.injEq] at h
    subst h
    exact nope_E
  | n + 1 => fun X c g k F G e ir h => by
    simp only [cE, Option.some.injEq] at h
    cases hq : cE1 (cE n) n c e with
    | none =>
      rw [hq] at h
      subst h
      exact nope_E
    | some x =>
      rw [hq] at h
      have h : x = ir := h
      subst h
      exact snd_step (snd_all n) X c g k F G e x hq
end TW
namespace TW
open PySem PySem.Spec PyProof.Rows L2
variable {X : Cx} {c : Cfg} {g : Gx} {k : Nat} {F : Fs}

/-! ### statements -/
def notComp : Expr → Bool
  | .ListComp _ _ _ _ => false
  | .SetComp _ _ _ _ => false
  | .DictComp _ _ _ _ _ => false
  | _ => true
def notTuple : Expr → Bool
  | .Tuple _ _ _ => false
  | _ => true
/-- where a name is given: a changeable list? -/
def asNew (c : Cfg) (x : Str) (ir : E) : E := if c.nw.contains x && freshI ir then .new ir else ir
def isLocal (c : Cfg) (x : Str) : Bool := match c.sc.names.lookup x with | some .local => true | _ => false
def isFun (c : Cfg) : Bool := match c.sc.kind with | .function => true | _ => false
/-- a, b = x, y with exchanged stores -/
def cPar (c : Cfg) (f : Expr → Option E) : Expr → Expr → Option S
  | .Tuple [.Name x px, .Name y py] _ _, .Tuple [a, b] _ _ =>
    if isFun c && isLocal c x && isLocal c y && (py.line == px.line) && decide (x ≠ y) && noStar a && noStar b && !([a, b].all (foldedForSure 8)) && !([a, b].all (constantsAlone 8)) then
      (match c.N.idxOf? x, c.N.idxOf? y, cList f [a, b] with | some i, some j, some r => some (.par [i, j] r) | _, _, _ => none)
    else none
  | .Tuple [.Name x px, .Name y py, .Name z pz] _ _, .Tuple [a, b, d] _ _ =>
    if isFun c && isLocal c x && isLocal c y && isLocal c z && (py.line == px.line) && (pz.line == px.line) && decide (x ≠ y) && decide (x ≠ z) && decide (y ≠ z) && noStar a && noStar b && noStar d && !([a, b, d].all (foldedForSure 8)) && !([a, b, d].all (constantsAlone 8)) then
      (match c.N.idxOf? x, c.N.idxOf? y, c.N.idxOf? z, cList f [a, b, d] with | some i, some j, some l, some r => some (.par [i, j, l] r) | _, _, _, _ => none)
    else none
  | _, _ => none
def cS1 (fs : Cfg → List Stmt → Option Ss) (n : Nat) (c : Cfg) (s : Stmt) : Option S := match s with
    | .Pass _ => some .pass
    | .Expr e _ => if notComp e then (match cE n c e with | some x => some (.expr x) | none => none) else none
    | .Return (some e) _ => match cE n c e with | some x => some (.ret (if c.rn && freshI x then .new x else x)) | none => none
    | .If t a b _ => if tOk n t then (match cE n c t, fs c a, fs c b with | some x, some y, some z => some (.iff x y z) | _, _, _ => none) else none
    | .While t b [] _ => if tOk n t then (match cE n c t, fs c b with | some x, some y => some (.while_ x y) | _, _ => none) else none
    | .For tg it b [] _ => match cTg c (cE n c) none 4 tg, cIt c (cE n c) tg it, fs c b with | some t, some i, some r => some (.for_ t i r) | _, _, _ => none
    | .AugAssign (.Name x _) op e _ => if stOk c x then (match c.N.idxOf? x, cE n c e with | some i, some a => some (.aug i op a) | _, _ => none) else none
    | .Assign [.Name x px] e pos => if stOk c x then (match c.N.idxOf? x, cE n c e with
        | some i, some a => if notComp e then some (.asg (.name i) (asNew c x a))
            else (match e with
              | .ListComp _ _ scope lp => if isLocal c x && isFun c && (px.line == lp.line) && !(scope.names.any fun (n, k) => n == x && (k == .local || k == .cell)) then some (.asg (.name i) (asNew c x a)) else none
              | _ => none)
        | _, _ => none) else none
    | .Assign [tg] e _ => match cPar c (cE n c) tg e with
        | some r => some r
        | none => if notComp e && swNone tg e then (match cTg c (cE n c) none 4 tg, cE n c e with | some t, some a => some (.asg t a) | _, _ => none) else none
    | _ => none
def orNopeS : Option S → S
  | some x => x
  | none => .nope
mutual
def cS : Nat → Cfg → Stmt → Option S
  | 0, _, _ => some .nope
  | n + 1, c, s => some (orNopeS (cS1 (cSs n) n c s))
def cSs : Nat → Cfg → List Stmt → Option Ss
  | 0, _, _ => none
  | n + 1, c, ss => match ss with
    | [] => some .nil
    | s :: r => match cS n c s, cSs n c r with | some a, some b => some (.cons a b) | _, _ => none
end
theorem notComp_swaps {e : Expr} (h : notComp e = true) (t : Option Expr) (l : Nat) (env : Env) : swapsWith e t l env = pure false := by
  cases e <;> first | rfl | cases h
theorem notComp_sole {e : Expr} (h : notComp e = true) (tg : Expr) (l : Nat) (env : Env) : swapsWithSole [tg] e l env = pure false := by
  unfold swapsWithSole
  exact notComp_swaps h _ _ _
structure GoodS (X : Cx) (c : Cfg) (g : Gx) (k : Nat) (F : Fs) : Prop extends Good X c g k F where
  po : PassesOwn (model X.prog X.w) X.A X.env X.xe
def SS (n : Nat) : Prop := ∀ (X : Cx) (c : Cfg) (g : Gx) (k : Nat) (F : Fs), GoodS X c g k F → (∀ (s : Stmt) (ir : S), cS n c s = some ir → PS X s (LS g (evS F ir))) ∧ (∀ (ss : List Stmt) (ir : Ss), cSs n c ss = some ir → PSs X ss (LS g (evSs F ir)))
theorem le_new {e : Expr} {x : E} (s : PE X e (LE g (evE F x)) ∧ (freshI x = true → PE X e (LF g (evE F x))) ∧ (∀ j, tOk j e = true → PT X e (LT g (tt (evE F x))))) (b : Bool) : PE X e (LE g (evE F (if b && freshI x then .new x else x))) := by
  split
  · rename_i h
    rw [Bool.and_eq_true] at h
    refine pe_weak (ln_of_lf (s.2.1 h.2)) ?_
    intro σ H Q q
    simpa only [evE] using q
  · exact s.1
theorem snd_setLc {n : Nat} {elt : Expr} {gens : List Comprehension} {scope : Scope} {x : Str} {px lp pos : Pos} {i : Nat} {a : E} (G : Good X c g k F) (hN : X.N.Nodup) (hs : stOk c x = true) (h1 : c.N.idxOf? x = some i) (h2 : cE n c (.ListComp elt gens scope lp) = some a)
    (q1 : isLocal c x = true) (q2 : isFun c = true) (q3 : (px.line == lp.line) = true) (q4 : (!(scope.names.any fun (n, k) => n == x && (k == .local || k == .cell))) = true) : PS X (.Assign [.Name x px] (.ListComp elt gens scope lp) pos) (LS g (evS F (.asg (.name i) (asNew c x a)))) := by
  have nop : PS X (.Assign [.Name x px] (.ListComp elt gens scope lp) pos) (LS g (evS F (.asg (.name i) (asNew c x .nope)))) := by
    refine ⟨fun pins s σ H D I h => ?_⟩
    obtain ⟨m, en, st, _, _, out⟩ := h
    unfold asNew at out
    rw [if_neg (by rw [Bool.and_eq_true]; exact fun z => nomatch z.2)] at out
    exact out.elim
  cases n with
  | zero => simp only [cE, Option.some.injEq] at h2; subst h2; exact nop
  | succ n =>
    simp only [cE, Option.some.injEq] at h2
    cases hq : cE1 (cE n) n c (.ListComp elt gens scope lp) with
    | none => rw [hq] at h2; subst h2; exact nop
    | some y =>
    rw [hq] at h2
    have h2 : y = a := h2
    subst h2
    have h2 := hq
    unfold cE1 at h2
    split at h2 <;> rename_i heq <;> try (cases heq; done)
    case h_18 => cases h2
    cases heq
    split at h2
    · rename_i hb
      rw [Bool.and_eq_true] at hb
      split at h2 <;> cases h2
      rename_i i' t r y k1 k2 k3 k4
      obtain ⟨wi, gg, t1, te, pi, ok, hgB, htB, heB, hs', im⟩ := snd_lc (snd_all n) G hb.1 hb.2 k1 k2 k3 k4
      have loc : X.env.scope.names.lookup x = some .local := by
        rw [G.sc]
        unfold isLocal at q1
        split at q1
        · assumption
        · cases q1
      have fk : X.env.scope.kind = .function := by
        rw [G.sc]
        unfold isFun at q2
        split at q2
        · assumption
        · cases q2
      refine ls_asgName_of (ps_setLc G.calm hN (idx_of G h1) loc (sw_true fk loc q3 (by simpa using q4)) pi ok hgB htB heB hs') fun σ H Q hq => im σ H Q ?_
      unfold asNew at hq
      split at hq
      · exact lf_of_ln σ H Q (by simpa only [evE] using hq)
      · exact lf_of_le σ H Q hq
    · cases h2
theorem nostar_of {c : Cfg} {f : Expr → Option E} {ow : Option (List Nat)} {j : Nat} {e : Expr} {t : Tg} (h : cTg c f ow j e = some t) : noStar e = true := by
  cases j with
  | zero => cases h
  | succ j =>
    unfold cTg at h
    split at h <;> first | rfl | cases h
theorem nope_S {s : Stmt} : PS X s (LS g (evS F .nope)) := by
  refine ⟨fun pins s σ H D I h => ?_⟩
  obtain ⟨m, en, st, _, _, out⟩ := h
  exact out.elim
theorem snd_par {n : Nat} (SN : SE n) (G : Good X c g k F) {tg e : Expr} {pos : Pos} {ir : S} (h : cPar c (cE n c) tg e = some ir) : PS X (.Assign [tg] e pos) (LS g (evS F ir)) := by
  have hN : X.N.Nodup := by rw [G.hN]; exact G.nd
  have loc : ∀ {x}, isLocal c x = true → X.env.scope.names.lookup x = some .local := fun {x} h => by
    rw [G.sc]
    unfold isLocal at h
    split at h
    · assumption
    · cases h
  have fk : isFun c = true → X.env.scope.kind = .function := fun h => by
    rw [G.sc]
    unfold isFun at h
    split at h
    · assumption
    · cases h
  have ixne : ∀ {x y : Str} {i j : Nat}, x ≠ y → c.N.idxOf? x = some i → c.N.idxOf? y = some j → i ≠ j := fun {x y i j} hne h1 h2 e => by
    subst e
    have := (idx_of G h1).symm.trans (idx_of G h2)
    exact hne (Option.some.inj this)
  unfold cPar at h
  split at h
  · split at h
    · rename_i hc
      simp only [Bool.and_eq_true, decide_eq_true_eq, Bool.not_eq_true'] at hc
      obtain ⟨⟨⟨⟨⟨⟨⟨⟨q1, q2⟩, q3⟩, q4⟩, q5⟩, q6⟩, q7⟩, q8⟩, q9⟩ := hc
      split at h <;> cases h
      rename_i i j r h1 h2 h3
      obtain ⟨pa, pl⟩ := snd_list SN G h3 (by simp [q6, q7])
      exact ls_par2 (fun en st xs st' e => pl en st xs st' e) (ps_par G.calm hN (idx_of G h1) (idx_of G h2) (ixne q5 h1 h2) (loc q2) (loc q3) pa (sw2_ok (fk q1) (loc q2) (loc q3) q4 q5 q6 q7 q8 q9) (notComp_sole rfl _ _ _))
    · cases h
  · split at h
    · rename_i hc
      simp only [Bool.and_eq_true, decide_eq_true_eq, Bool.not_eq_true'] at hc
      obtain ⟨⟨⟨⟨⟨⟨⟨⟨⟨⟨⟨⟨⟨q1, q2⟩, q3⟩, q4⟩, q5⟩, q6⟩, q7⟩, q8⟩, q9⟩, q10⟩, q11⟩, q12⟩, q13⟩, q14⟩ := hc
      split at h <;> cases h
      rename_i i j l r h1 h2 h3 h4
      obtain ⟨pa, pl⟩ := snd_list SN G h4 (by simp [q10, q11, q12])
      exact ls_par3 (fun en st xs st' e => pl en st xs st' e) (ps_par3 G.calm hN (idx_of G h1) (idx_of G h2) (idx_of G h3) (ixne q7 h1 h2) (ixne q8 h1 h3) (ixne q9 h2 h3) (loc q2) (loc q3) (loc q4) pa (sw3_ok (fk q1) (loc q2) (loc q3) (loc q4) q5 q6 q7 q8 q9 q10 q11 q12 q13 q14) (notComp_sole rfl _ _ _))
    · cases h
  · cases h
theorem snd_stmts : ∀ n, SS n
  | 0 => fun _ _ _ _ _ _ => ⟨fun s ir h => (by simp only [cS, Option.some.injEq] at h; subst h; exact nope_S), fun s ir h => (by simp only [cSs] at h; cases h)⟩
  | n + 1 => by
    have I := snd_stmts n
    have S := snd_all n
    intro X c g k F G
    have hN : X.N.Nodup := by rw [G.hN]; exact G.nd
    refine ⟨fun s ir h => ?_, fun ss ir h => ?_⟩
    · simp only [cS, Option.some.injEq] at h
      cases hq : cS1 (cSs n) n c s with
      | none => rw [hq] at h; subst h; exact nope_S
      | some ir' =>
      rw [hq] at h
      have h : ir' = ir := h
      subst h
      have h := hq
      clear hq
      unfold cS1 at h
      split at h
      · cases h; exact ls_pass
      · split at h
        · rename_i hc
          split at h <;> cases h
          rename_i x h1
          exact ls_expr (S X c g k F G.toGood _ x h1).1 (notComp_swaps hc _ _ _)
        · cases h
      · split at h <;> cases h
        rename_i x h1
        exact ls_ret (le_new (S X c g k F G.toGood _ x h1) _)
      · split at h
        · rename_i ht
          split at h <;> cases h
          rename_i x y z h1 h2 h3
          exact ls_if ((S X c g k F G.toGood _ x h1).2.2 n ht) ((I X c g k F G).2 _ y h2) ((I X c g k F G).2 _ z h3)
        · cases h
      · split at h
        · rename_i ht
          split at h <;> cases h
          rename_i x y h1 h2
          exact ls_while WF G.po ((S X c g k F G.toGood _ x h1).2.2 n ht) ((I X c g k F G).2 _ y h2)
        · cases h
      · split at h <;> cases h
        rename_i t i r h1 h2 h3
        obtain ⟨pi, hs⟩ := snd_it S G.toGood (tg := _) h2
        exact ls_for G.po G.calm pi (snd_tg (own := fun _ => True) S G.toGood (fun _ _ => trivial) h1) ((I X c g k F G).2 _ r h3) hs
      · split at h
        · rename_i hs
          split at h <;> cases h
          rename_i i a h1 h2
          obtain ⟨s1, s2⟩ := stOk_of G.toGood hs
          exact ls_aug G.K hN (idx_of G.toGood h1) s1 s2 (S X c g k F G.toGood _ a h2).1
        · cases h
      · split at h
        · rename_i x px e pos hs
          split at h
          · rename_i i a h1 h2
            obtain ⟨s1, s2⟩ := stOk_of G.toGood hs
            have p := le_new (S X c g k F G.toGood _ a h2) (c.nw.contains x)
            split at h
            · rename_i hc
              cases h
              exact ls_asgName_of (ps_set hN (idx_of G.toGood h1) s1 p (notComp_swaps hc _ _ _) s2) fun _ _ _ q => q
            · split at h
              · split at h
                · rename_i elt gens scope lp _ hq
                  cases h
                  simp only [Bool.and_eq_true] at hq
                  obtain ⟨⟨⟨q1, q2⟩, q3⟩, q4⟩ := hq
                  exact snd_setLc G.toGood hN hs h1 h2 q1 q2 q3 q4
                · cases h
              · cases h
          · cases h
        · cases h
      · split at h
        · rename_i r hr
          cases h
          exact snd_par S G.toGood hr
        · split at h
          · rename_i hc
            rw [Bool.and_eq_true] at hc
            split at h <;> cases h
            rename_i t a h1 h2
            exact ls_asg_of (ps_asg (S X c g k F G.toGood _ a h2).1 (snd_tg (own := fun _ => True) S G.toGood (fun _ _ => trivial) h1) (notComp_sole hc.1 _ _ _) (swNone_ok hc.2 _) (by
              have := assign_cons (es := []) (nostar_of h1) X.env
              simpa [assignEach] using this))
          · cases h
      · cases h
    · unfold cSs at h
      split at h
      · cases h; exact ls_nil
      · split at h <;> cases h
        rename_i a b h1 h2
        exact ls_cons ((I X c g k F G).1 _ a h1) ((I X c g k F G).2 _ b h2)
end TW
namespace TW
open PySem PySem.Spec PyProof.Rows L2

/-! ### a program -/
/-- a def of the text: its statement, parameters, names by slot, the names that hold changeable lists -/
structure DI where
  nm : Str
  id : Nat
  st : Stmt
  ps : List Str
  N : List Str
  nw : List Str
  rn : Bool
structure Pg where
  gl : List (Str × D)
  bl : List Str
  pats : List Pat
  tb : List (Str × List (Str × D))
def cfgOf (p : Pg) (d : DI) : Cfg := ⟨d.N, defScope d.st, true, [], p.gl, p.bl, p.pats, d.nw, d.rn, p.tb⟩
/-- the defs' bodies -/
abbrev Tbl := Nat → Option (Nat × Ss)
def Fn (t : Tbl) : Nat → Fs
  | 0 => fun _ _ _ => .stuck
  | k + 1 => fun i vs st => match t i with
    | some (n, b) => runF n (evSs (Fn t k) b) vs st
    | none => .stuck
structure DOk (K : PySem.W.Frag) (d : DI) (f : Addr) (fd : FuncData) : Prop where
  ex : ∃ (oc : Value) (od : Option Addr) (dV kV doc pm : Value) (an : Option Addr) (cdv ct : Value) (osl : Array (Option Value)),
    fd = PySem.W.fnOf d.nm d.nm (defArgs d.st) (defBody d.st) (defScope d.st) dV kV doc pm an cdv ct ∧ K.lookup f = some ⟨oc, od, .func fd, osl⟩ ∧ PySem.W.codeIn K cdv d.nm = true
/-- a def's text is resolved -/
structure DC (p : Pg) (t : Tbl) (d : DI) : Prop where
  sc : FnScope d.N d.ps (defScope d.st)
  ir : ∃ b, t d.id = some (d.N.length, b) ∧ cSs 60 (cfgOf p d) (defBody d.st) = some b
/-- the facts behind the top -/
structure PgOk (w : World) (K : PySem.W.Frag) (mg : Str → Option Value) (p : Pg) (t : Tbl) (ds : List DI) (fs : List Addr) (fds : List FuncData) : Prop where
  gl : ∀ x d, p.gl.lookup x = some d → ∃ u v, mg x = some u ∧ RelV v u ∧ ∀ H, RepD K H d v
  bl : ∀ x ∈ p.bl, mg x = none
  tb : ∀ x t, p.tb.lookup x = some t → TabOk K w mg x t
  d : ∀ (i : Nat) d, ds[i]? = some d → ∃ f fd, fs[i]? = some f ∧ fds[i]? = some fd ∧ DOk K d f fd ∧ DC p t d
  pats : ∀ q ∈ p.pats, ∃ (i : Nat) (d : DI) (f : Addr) (fd : FuncData), ds[i]? = some d ∧ fs[i]? = some f ∧ fds[i]? = some fd ∧ d.id = q.fn ∧ mg q.name = some (.ref f) ∧ PySem.W.keepIn K (.ref f) = true ∧ q.ord.length = d.ps.length ∧
    ∀ (s : Shared) (us ws : List Value), K.In s.heap → us.length = q.npos → ws.length = q.ks.length → ∃ zs, BindsTo s fd ⟨us, q.ks.zip ws⟩ (d.ps.zip zs) ∧ ArrV K (us ++ ws) q.ord zs
theorem spD_len {K : PySem.W.Frag} {mg : Str → Option Value} {n : Nat} {f : List Vv → Sto → R Vv} {vs : List V} {H : Hp} {Q : VK} {E : XK} (h : spD K mg n f vs H Q E) : vs.length = n := by
  obtain ⟨m, xs, st, hl, rel, rx, _⟩ := h
  rw [← hl, Paired.length rx]
theorem prog_ok {P : Program} {w : World} {K : PySem.W.Frag} {mg : Str → Option Value} {base : Heap} {p : Pg} {t : Tbl} {ds : List DI} {fs : List Addr} {fds : List FuncData} (O : PgOk w K mg p t ds fs fds) :
    ∀ (k : Nat) (i : Nat) (d : DI) (f : Addr) (fd : FuncData), ds[i]? = some d → fs[i]? = some f → fds[i]? = some fd → FnOk P w K mg base (L2.CX P w) k f fd d.ps (spD K mg d.ps.length (Fn t k d.id)) := by
  intro k
  induction k with
  | zero =>
    intro i d f fd _ _ _
    refine ⟨fun vs H Q E h => spD_len h, fun A outer s H args us vs Q E _ _ _ _ h => ?_⟩
    obtain ⟨m, xs, st, _, _, _, h⟩ := h
    exact h.elim
  | succ k ih =>
    intro i d f fd hd hf hfd
    obtain ⟨f', fd', e1, e2, D, C⟩ := O.d i d hd
    rw [hf] at e1; cases e1
    rw [hfd] at e2; cases e2
    obtain ⟨oc, od, dV, kV, doc, pm, an, cdv, ct, osl, rfl, lk, hcd⟩ := D.ex
    obtain ⟨b, hb, hc⟩ := C.ir
    refine fn_of lk hcd C.sc (fun vs H Q E h => spD_len h) fun A outer s H vs Q E hr h => ?_
    have h' : spD K mg d.ps.length (runF d.N.length (evSs (Fn t k) b)) vs H Q E := by
      obtain ⟨m, xs, st, q1, q2, q3, q4⟩ := h
      refine ⟨m, xs, st, q1, q2, q3, ?_⟩
      have : Fn t (k + 1) d.id xs st = runF d.N.length (evSs (Fn t k) b) xs st := by
        show (match t d.id with | some (n, b) => runF n (evSs (Fn t k) b) xs st | none => .stuck) = _
        rw [hb]
      rw [this] at q4
      exact q4
    refine ⟨_, ?_, body_of h'⟩
    have G : GoodS (cxOf (L2.CX P w) P w K mg base d.N d.nm (defScope d.st) f cdv A outer s H E) (cfgOf p d) ⟨K, mg, fun cls d _ H => E cls d H⟩ k (Fn t k) := {
      hN := rfl, nd := C.sc.nd, sc := rfl, calm := rfl, K := rfl, mg := rfl, tk := takes_of rfl rfl rfl rfl, room := hr, gl := O.gl, bl := O.bl,
      pats := fun q hq => by
        obtain ⟨i', d', f', fd', h1, h2, h3, h0, h4, h5, h6, h7⟩ := O.pats q hq
        exact ⟨f', fd', d'.ps, h4, h5, h0 ▸ ih i' d' f' fd' h1 h2 h3, h6, h7⟩,
      top := fun _ _ => rfl, ownc := fun x hx => (nomatch hx), tb := O.tb, po := passes_of rfl }
    exact ((snd_stmts 60 _ _ _ _ _ G).2 _ b hc)
/-- the law's own promise -/
def spLaw (K : PySem.W.Frag) (n : Nat) : Sp := fun vs H Q _ => ∃ (a : Addr) (ns : List Int), vs = [.ref a] ∧ SqL K H a (ns.map V.int) ∧ ns.length ≤ n ∧ ∀ H', Q (.bl true) H'
theorem law_sp {K : PySem.W.Frag} {mg : Str → Option Value} {f : List Vv → Sto → R Vv} {n : Nat} (hn : n ≤ sizeLine) (hf : ∀ ns : List Int, ns.length ≤ n → f [.d (.lst (ns.map D.int))] [] = .ok (.d (.bl true)) []) (vs : List V) (H : Hp) (Q : VK) (E : XK) (h : spLaw K n vs H Q E) :
    spD K mg 1 f vs H Q E := by
  obtain ⟨a, ns, rfl, hS, hl, hq⟩ := h
  have hrep : ∀ ns : List Int, RepDs K (hm ⟨[], []⟩ H) (ns.map D.int) (ns.map V.int) := by
    intro ns
    induction ns with
    | nil => exact .nil
    | cons x r ih => exact .cons (by simp only [RepD]) ih
  have he : hm ⟨[], []⟩ H = H := by
    funext b
    unfold hm
    simp
  refine ⟨⟨[], []⟩, [.d (.lst (ns.map D.int))], [], rfl, ⟨rfl, .nil, fun i o a h => by simp at h, fun a ha => nomatch ha⟩, .cons ?_ .nil, ?_⟩
  · simp only [RepV, RepD]
    exact ⟨a, _, rfl, by rw [he]; exact hS, by rw [List.length_map]; omega, hrep ns⟩
  · rw [hf ns hl]
    intro m' H' v _ _ r
    simp only [RepV, RepD] at r
    rw [r]
    exact hq H'
/-- one table within another -/
def Sub (a b : Tbl) : Prop := ∀ i r, a i = some r → b i = some r
theorem Sub.refl (a : Tbl) : Sub a a := fun _ _ h => h
theorem Sub.trans {a b c : Tbl} (h : Sub a b) (g : Sub b c) : Sub a c := fun i r q => g i r (h i r q)
theorem fn_at {c t : Tbl} (T : Sub c t) {i n : Nat} {b : Ss} (h : c i = some (n, b)) (k : Nat) (vs : List Vv) (st : Sto) : Fn t (k + 1) i vs st = runF n (evSs (Fn t k) b) vs st := by
  show (match t i with | some (n, b) => runF n (evSs (Fn t k) b) vs st | none => .stuck) = _
  rw [T i _ h]
theorem rep_glob_tup {K : PySem.W.Frag} {H : Hp} {a : Addr} {od : Option Addr} {sl : Array (Option Value)} {n : Nat} {its : Array Value} {ds : List D} {vs : List V} (l : K.lookup a = some ⟨.type "tuple", od, .seq its n, sl⟩) (hv : Vals vs its.toList) (hl : its.size ≤ 10000) (hr : RepDs K H ds vs) : RepD K H (.tup ds) (.ref a) := by
  simp only [RepD]
  have h1 : its.size ≤ sizeLine := by rw [sizeLine_eq]; omega
  exact ⟨a, vs, rfl, .inr ⟨_, its, n, l, rfl, rfl, h1, hv⟩, by rw [hr.length, hv.length, Array.length_toList]; exact h1, hr⟩
theorem cx_false {P : Program} {w : World} {H : Hp} {s : Shared} {e : Value} {s' : Shared} (h : L2.CX P w [] H s (fun _ _ _ => False) e s') : False := by
  obtain ⟨_, _, _, _, _, _, _, _, _, _, _, _, h⟩ := h
  exact h
end TW
namespace TW
open PySem PySem.Spec PyProof.Rows L2
/-! ### steps of the evaluator: only what comes first is reckoned -/
theorem bind_exc {α β : Type} (x : Xn) (st : Sto) (f : α → Sto → R β) : (R.exc x st : R α).bind f = .exc x st := id rfl
theorem bind_stuck {α β : Type} (f : α → Sto → R β) : (R.stuck : R α).bind f = .stuck := id rfl
theorem go_ok {α : Type} (a : α) (st : Sto) (en : En) (f : α → Sto → RS) : (R.ok a st).go en f = f a st := id rfl
theorem go_exc {α : Type} (x : Xn) (st : Sto) (en : En) (f : α → Sto → RS) : (R.exc x st : R α).go en f = .exc x en st := id rfl
theorem seq_nx (en : En) (st : Sto) (f : En → Sto → RS) : (RS.nx en st).seq f = f en st := id rfl
theorem seq_rt (v : Vv) (st : Sto) (f : En → Sto → RS) : (RS.rt v st).seq f = .rt v st := id rfl
theorem seq_exc (x : Xn) (en : En) (st : Sto) (f : En → Sto → RS) : (RS.exc x en st).seq f = .exc x en st := id rfl
theorem turn_nx (en : En) (st : Sto) (f : En → Sto → RS) : (RS.nx en st).turn f = f en st := id rfl
theorem turn_rt (v : Vv) (st : Sto) (f : En → Sto → RS) : (RS.rt v st).turn f = .rt v st := id rfl
theorem turn_exc (x : Xn) (en : En) (st : Sto) (f : En → Sto → RS) : (RS.exc x en st).turn f = .exc x en st := id rfl
theorem calm_ok' {α : Type} (a : α) (st : Sto) : (R.ok a st).calm = .ok a st := id rfl
theorem end_d (n : Nat) (x : D) (st : Sto) : endF n (.rt (.d x) st) = .ok (.d x) (st.take n) := id rfl
theorem end_nx (n : Nat) (en : En) (st : Sto) : endF n (.nx en st) = .ok (.d .non) (st.take n) := id rfl
theorem end_exc (n : Nat) (x : Xn) (en : En) (st : Sto) : endF n (.exc x en st) = .exc x (st.take n) := id rfl
theorem fn_succ (t : Tbl) (k i : Nat) (vs : List Vv) (st : Sto) : Fn t (k + 1) i vs st = match t i with
    | some (n, b) => runF n (evSs (Fn t k) b) vs st
    | none => .stuck := id rfl
theorem tru_bl (b : Bool) (st : Sto) : truV (.d (.bl b)) st = .ok b st := id rfl
theorem for_nil (g : D → En → Sto → R En) (b : En → Sto → RS) (en : En) (st : Sto) : forLoop [] g b [] en st = .nx en st := id rfl
def kTurn (ps : List (Nat × List D)) (g : D → En → Sto → R En) (b : En → Sto → RS) (xs : List D) (en : En) (st : Sto) : RS := forLoop ps g b xs en st
def kBody (ps : List (Nat × List D)) (g : D → En → Sto → R En) (b : En → Sto → RS) (xs : List D) (en : En) (st : Sto) : RS := (b en st).turn fun en st => forLoop ps g b xs en st
theorem for_cons (g : D → En → Sto → R En) (b : En → Sto → RS) (x : D) (xs : List D) (en : En) (st : Sto) : forLoop [] g b (x :: xs) en st = (g x en st).calm.go en (kBody [] g b xs) := id rfl
theorem k_turn (ps : List (Nat × List D)) (g : D → En → Sto → R En) (b : En → Sto → RS) (xs : List D) (en : En) (st : Sto) : kTurn ps g b xs en st = forLoop ps g b xs en st := id rfl
theorem k_body (ps : List (Nat × List D)) (g : D → En → Sto → R En) (b : En → Sto → RS) (xs : List D) (en : En) (st : Sto) : kBody ps g b xs en st = (b en st).turn (kTurn ps g b xs) := id rfl
theorem for_nilp {ps : List (Nat × List D)} {st : Sto} (h : pinOk ps st = true) (g : D → En → Sto → R En) (b : En → Sto → RS) (en : En) : forLoop ps g b [] en st = .nx en st := by simp only [forLoop, h, if_true]
theorem for_consp {ps : List (Nat × List D)} {st : Sto} (h : pinOk ps st = true) (g : D → En → Sto → R En) (b : En → Sto → RS) (x : D) (xs : List D) (en : En) : forLoop ps g b (x :: xs) en st = (g x en st).calm.go en (kBody ps g b xs) := by (simp only [forLoop, h, if_true]) <;> rfl
theorem lc_nil (ps : List (Nat × List D)) (g : D → En → Sto → R En) (t : En → Sto → R Bool) (e : En → Sto → R Vv) (en : En) (acc : List D) (st : Sto) (h : pinOk ps st = true) : lcLoop ps g t e en [] acc st = .ok (.d (.lst acc)) st := by simp only [lcLoop, h, if_true]
theorem lc_cons (ps : List (Nat × List D)) (g : D → En → Sto → R En) (t : En → Sto → R Bool) (e : En → Sto → R Vv) (en : En) (x : D) (xs acc : List D) (st : Sto) (h : pinOk ps st = true) : lcLoop ps g t e en (x :: xs) acc st = (g x en st).bind fun en2 st => (t en2 st).bind fun k st =>
      if k then (e en2 st).bind fun y st => (match y with | .d z => lcLoop ps g t e en xs (acc ++ [z]) st | _ => .stuck) else lcLoop ps g t e en xs acc st := by (simp only [lcLoop, h, if_true]) <;> rfl
/-- a comprehension whose element is a plain function of the item, nothing left out -/
theorem lc_map {ps : List (Nat × List D)} {g : D → En → Sto → R En} {t : En → Sto → R Bool} {e : En → Sto → R Vv} {en : En} {f : D → D} {st : Sto} (hp : pinOk ps st = true) : ∀ (xs acc : List D), (∀ x ∈ xs, ∃ en2, g x en st = .ok en2 st ∧ t en2 st = .ok true st ∧ e en2 st = .ok (.d (f x)) st) → lcLoop ps g t e en xs acc st = .ok (.d (.lst (acc ++ xs.map f))) st
  | [], acc, _ => by simp [lc_nil, hp]
  | x :: xs, acc, h => by
    obtain ⟨en2, h1, h2, h3⟩ := h x (by simp)
    rw [lc_cons _ _ _ _ _ _ _ _ _ hp, h1, bind_ok, h2, bind_ok, if_pos rfl, h3, bind_ok]
    show lcLoop ps g t e en xs (acc ++ [f x]) st = _
    rw [lc_map hp xs (acc ++ [f x]) fun y hy => h y (List.mem_cons_of_mem _ hy)]
    simp
theorem c_eq_ii (i j : Int) : cmpD .Eq (.int i) (.int j) = some (decide (i = j)) := by
  simp only [cmpD, eqO, dep, eqD, Nat.zero_le, and_self, if_true]
  first | rfl | (congr 1; rw [Bool.eq_iff_iff]; simp)
theorem c_ne_ii (i j : Int) : cmpD .NotEq (.int i) (.int j) = some (!decide (i = j)) := by
  have := c_eq_ii i j
  simp only [cmpD] at this ⊢
  rw [this]
  rfl
theorem c_lt_ii (i j : Int) : cmpD .Lt (.int i) (.int j) = some (decide (i < j)) := id rfl
theorem c_le_ii (i j : Int) : cmpD .LtE (.int i) (.int j) = some (decide (i ≤ j)) := id rfl
theorem c_gt_ii (i j : Int) : cmpD .Gt (.int i) (.int j) = some (decide (j < i)) := id rfl
theorem c_ge_ii (i j : Int) : cmpD .GtE (.int i) (.int j) = some (decide (j ≤ i)) := id rfl
theorem c_is_non (d : D) : cmpD .Is d .non = some (noneD d) := id rfl
theorem c_isn_non (d : D) : cmpD .IsNot d .non = some (!noneD d) := id rfl
theorem is_int_non  : isiD "int" .non = .bl false := congrArg D.bl (show isiN "NoneType" "int" = false by decide)
theorem is_int_bl (b : Bool) : isiD "int" (.bl b) = .bl true := congrArg D.bl (show isiN "bool" "int" = true by decide)
theorem is_int_int (i : Int) : isiD "int" (.int i) = .bl true := congrArg D.bl (show isiN "int" "int" = true by decide)
theorem is_int_str (s : Str) : isiD "int" (.str s) = .bl false := congrArg D.bl (show isiN "str" "int" = false by decide)
theorem is_int_tup (xs : List D) : isiD "int" (.tup xs) = .bl false := congrArg D.bl (show isiN "tuple" "int" = false by decide)
theorem is_int_lst (xs : List D) : isiD "int" (.lst xs) = .bl false := congrArg D.bl (show isiN "list" "int" = false by decide)
theorem is_int_dct (ks : List Key) (xs : List D) : isiD "int" (.dct ks xs) = .bl false := congrArg D.bl (show isiN "dict" "int" = false by decide)
theorem is_str_non  : isiD "str" .non = .bl false := congrArg D.bl (show isiN "NoneType" "str" = false by decide)
theorem is_str_bl (b : Bool) : isiD "str" (.bl b) = .bl false := congrArg D.bl (show isiN "bool" "str" = false by decide)
theorem is_str_int (i : Int) : isiD "str" (.int i) = .bl false := congrArg D.bl (show isiN "int" "str" = false by decide)
theorem is_str_str (s : Str) : isiD "str" (.str s) = .bl true := congrArg D.bl (show isiN "str" "str" = true by decide)
theorem is_str_tup (xs : List D) : isiD "str" (.tup xs) = .bl false := congrArg D.bl (show isiN "tuple" "str" = false by decide)
theorem is_str_lst (xs : List D) : isiD "str" (.lst xs) = .bl false := congrArg D.bl (show isiN "list" "str" = false by decide)
theorem is_str_dct (ks : List Key) (xs : List D) : isiD "str" (.dct ks xs) = .bl false := congrArg D.bl (show isiN "dict" "str" = false by decide)
theorem is_bool_non  : isiD "bool" .non = .bl false := congrArg D.bl (show isiN "NoneType" "bool" = false by decide)
theorem is_bool_bl (b : Bool) : isiD "bool" (.bl b) = .bl true := congrArg D.bl (show isiN "bool" "bool" = true by decide)
theorem is_bool_int (i : Int) : isiD "bool" (.int i) = .bl false := congrArg D.bl (show isiN "int" "bool" = false by decide)
theorem is_bool_str (s : Str) : isiD "bool" (.str s) = .bl false := congrArg D.bl (show isiN "str" "bool" = false by decide)
theorem is_bool_tup (xs : List D) : isiD "bool" (.tup xs) = .bl false := congrArg D.bl (show isiN "tuple" "bool" = false by decide)
theorem is_bool_lst (xs : List D) : isiD "bool" (.lst xs) = .bl false := congrArg D.bl (show isiN "list" "bool" = false by decide)
theorem is_bool_dct (ks : List Key) (xs : List D) : isiD "bool" (.dct ks xs) = .bl false := congrArg D.bl (show isiN "dict" "bool" = false by decide)
theorem is_tuple_non  : isiD "tuple" .non = .bl false := congrArg D.bl (show isiN "NoneType" "tuple" = false by decide)
theorem is_tuple_bl (b : Bool) : isiD "tuple" (.bl b) = .bl false := congrArg D.bl (show isiN "bool" "tuple" = false by decide)
theorem is_tuple_int (i : Int) : isiD "tuple" (.int i) = .bl false := congrArg D.bl (show isiN "int" "tuple" = false by decide)
theorem is_tuple_str (s : Str) : isiD "tuple" (.str s) = .bl false := congrArg D.bl (show isiN "str" "tuple" = false by decide)
theorem is_tuple_tup (xs : List D) : isiD "tuple" (.tup xs) = .bl true := congrArg D.bl (show isiN "tuple" "tuple" = true by decide)
theorem is_tuple_lst (xs : List D) : isiD "tuple" (.lst xs) = .bl false := congrArg D.bl (show isiN "list" "tuple" = false by decide)
theorem is_tuple_dct (ks : List Key) (xs : List D) : isiD "tuple" (.dct ks xs) = .bl false := congrArg D.bl (show isiN "dict" "tuple" = false by decide)
theorem is_list_non  : isiD "list" .non = .bl false := congrArg D.bl (show isiN "NoneType" "list" = false by decide)
theorem is_list_bl (b : Bool) : isiD "list" (.bl b) = .bl false := congrArg D.bl (show isiN "bool" "list" = false by decide)
theorem is_list_int (i : Int) : isiD "list" (.int i) = .bl false := congrArg D.bl (show isiN "int" "list" = false by decide)
theorem is_list_str (s : Str) : isiD "list" (.str s) = .bl false := congrArg D.bl (show isiN "str" "list" = false by decide)
theorem is_list_tup (xs : List D) : isiD "list" (.tup xs) = .bl false := congrArg D.bl (show isiN "tuple" "list" = false by decide)
theorem is_list_lst (xs : List D) : isiD "list" (.lst xs) = .bl true := congrArg D.bl (show isiN "list" "list" = true by decide)
theorem is_list_dct (ks : List Key) (xs : List D) : isiD "list" (.dct ks xs) = .bl false := congrArg D.bl (show isiN "dict" "list" = false by decide)
theorem is_dict_non  : isiD "dict" .non = .bl false := congrArg D.bl (show isiN "NoneType" "dict" = false by decide)
theorem is_dict_bl (b : Bool) : isiD "dict" (.bl b) = .bl false := congrArg D.bl (show isiN "bool" "dict" = false by decide)
theorem is_dict_int (i : Int) : isiD "dict" (.int i) = .bl false := congrArg D.bl (show isiN "int" "dict" = false by decide)
theorem is_dict_str (s : Str) : isiD "dict" (.str s) = .bl false := congrArg D.bl (show isiN "str" "dict" = false by decide)
theorem is_dict_tup (xs : List D) : isiD "dict" (.tup xs) = .bl false := congrArg D.bl (show isiN "tuple" "dict" = false by decide)
theorem is_dict_lst (xs : List D) : isiD "dict" (.lst xs) = .bl false := congrArg D.bl (show isiN "list" "dict" = false by decide)
theorem is_dict_dct (ks : List Key) (xs : List D) : isiD "dict" (.dct ks xs) = .bl true := congrArg D.bl (show isiN "dict" "dict" = true by decide)
theorem len_s (s : Str) : lenD [.str s] = some (.int s.length) := id rfl
theorem len_l (xs : List D) : lenD [.lst xs] = some (.int xs.length) := id rfl
theorem len_t (xs : List D) : lenD [.tup xs] = some (.int xs.length) := id rfl
/-! ### the evaluator's equations, with what comes behind by a name -/
section
variable (F : Fs)
def kBin1 (op : Operator) (b : E) (en : En) (x : Vv) (st : Sto) : R Vv := (evE F b en st).bind fun y st => op2 (binD op) x y st
def kBin2 (op : Operator) (x y : Vv) (st : Sto) : R Vv := op2 (binD op) x y st
theorem e_var (i en st) : evE F (.var i) en st = (match en[i]? with | some (some v) => .ok v st | _ => .stuck) := id rfl
theorem e_con (d en st) : evE F (.con d) en st = .ok (.d d) st := id rfl
theorem e_bin (op a b en st) : evE F (.bin op a b) en st = (evE F a en st).bind (kBin1 F op b en) := id rfl
theorem k_bin1 (op b en x st) : kBin1 F op b en x st = (evE F b en st).bind (kBin2 op x) := id rfl
theorem k_bin2 (op) (x y : D) (st) : kBin2 op (.d x) (.d y) st = give (binD op x y) st := id rfl
theorem k_bin2r (op) (n : Nat) (y : D) (st : Sto) : kBin2 op (.ref n) (.d y) st = match st[n]? with | some (.lst xs) => give (binD op (.lst xs) y) st | _ => .stuck := by
  unfold kBin2 op2
  simp only [der]
  cases st[n]? with
  | none => rfl
  | some o => cases o <;> rfl
def kNeg (x : Vv) (st : Sto) : R Vv := match x with | .d (.int i) => .ok (.d (.int (-i))) st | _ => .stuck
theorem e_neg (a en st) : evE F (.neg a) en st = (evE F a en st).bind kNeg := id rfl
theorem k_neg (i st) : kNeg (.d (.int i)) st = .ok (.d (.int (-i))) st := id rfl
def kNot (x : Vv) (st : Sto) : R Vv := (truV x st).bind fun k st => .ok (.d (.bl (!k))) st
theorem e_not (a en st) : evE F (.not a) en st = (evE F a en st).bind kNot := id rfl
theorem k_not (b st) : kNot (.d (.bl b)) st = .ok (.d (.bl (!b))) st := id rfl
def kAnd (b : E) (en : En) (x : Vv) (st : Sto) : R Vv := (truV x st).bind fun k st => if k then evE F b en st else .ok x st
theorem e_and (a b en st) : evE F (.and a b) en st = (evE F a en st).bind (kAnd F b en) := id rfl
theorem k_and (b en) (x : Bool) (st) : kAnd F b en (.d (.bl x)) st = if x = true then evE F b en st else .ok (.d (.bl x)) st := id rfl
def kOr (b : E) (en : En) (x : Vv) (st : Sto) : R Vv := (truV x st).bind fun k st => if k then .ok x st else evE F b en st
theorem e_or (a b en st) : evE F (.or a b) en st = (evE F a en st).bind (kOr F b en) := id rfl
theorem k_or (b en) (x : Bool) (st) : kOr F b en (.d (.bl x)) st = if x = true then .ok (.d (.bl x)) st else evE F b en st := id rfl
theorem k_orI (b en) (x : Int) (st) : kOr F b en (.d (.int x)) st = if (x != 0) = true then .ok (.d (.int x)) st else evE F b en st := id rfl
def kCmp1 (op : CmpOp) (b : E) (en : En) (x : Vv) (st : Sto) : R Vv := (evE F b en st).bind fun y st => cmpV op x y st
def kCmp2 (op : CmpOp) (x y : Vv) (st : Sto) : R Vv := cmpV op x y st
theorem e_cmp (op a b en st) : evE F (.cmp op a b) en st = (evE F a en st).bind (kCmp1 F op b en) := id rfl
theorem k_cmp1 (op b en x st) : kCmp1 F op b en x st = (evE F b en st).bind (kCmp2 op x) := id rfl
def giveB (o : Option Bool) (st : Sto) : R Vv := match o with | some k => .ok (.d (.bl k)) st | none => .stuck
theorem give_b (k st) : giveB (some k) st = .ok (.d (.bl k)) st := id rfl
theorem k_cmp2 (op) (x y : D) (st) : kCmp2 op (.d x) (.d y) st = giveB (cmpD op x y) st := by
  unfold kCmp2 cmpV op2 giveB
  simp only [der]
  cases cmpD op x y <;> rfl
def kCh1 (p q : CmpOp) (b c : E) (en : En) (x : Vv) (st : Sto) : R Vv := (evE F b en st).bind fun y st => (cmpV p x y st).bind fun k st =>
      match k with
      | .d (.bl true) => (evE F c en st).bind fun z st => cmpV q y z st
      | .d (.bl false) => .ok (.d (.bl false)) st
      | _ => .stuck
def kCh2 (p q : CmpOp) (c : E) (en : En) (x y : Vv) (st : Sto) : R Vv := (cmpV p x y st).bind fun k st =>
      match k with
      | .d (.bl true) => (evE F c en st).bind fun z st => cmpV q y z st
      | .d (.bl false) => .ok (.d (.bl false)) st
      | _ => .stuck
theorem e_chain (p q a b c en st) : evE F (.chain p q a b c) en st = (evE F a en st).bind (kCh1 F p q b c en) := id rfl
theorem k_ch1 (p q b c en x st) : kCh1 F p q b c en x st = (evE F b en st).bind (kCh2 F p q c en x) := id rfl
theorem k_ch2 (p q c en) (x y : D) (st) : kCh2 F p q c en (.d x) (.d y) st = match cmpD p x y with
    | some k => if k = true then (evE F c en st).bind (kCmp2 q (.d y)) else .ok (.d (.bl false)) st
    | none => .stuck := by
  unfold kCh2 cmpV op2 der
  cases h : cmpD p x y with
  | none => simp only [h]; rfl
  | some k => simp only [h]; cases k <;> rfl
def kIte (a b : E) (en : En) (x : Vv) (st : Sto) : R Vv := (truV x st).bind fun k st => if k then evE F a en st else evE F b en st
theorem e_ite (c a b en st) : evE F (.ite c a b) en st = (evE F c en st).bind (kIte F a b en) := id rfl
theorem k_ite (a b en) (x : Bool) (st) : kIte F a b en (.d (.bl x)) st = if x = true then evE F a en st else evE F b en st := id rfl
def kCall1 (f : Nat) (ks : Es) (ord : List (Nat ⊕ D)) (en : En) (vs : List Vv) (st : Sto) : R Vv := (evEs F ks en st).bind fun ws st => match arrD ord (vs ++ ws) with | some xs => F f xs st | none => .stuck
def kCall2 (f : Nat) (ord : List (Nat ⊕ D)) (vs ws : List Vv) (st : Sto) : R Vv := match arrD ord (vs ++ ws) with | some xs => F f xs st | none => .stuck
theorem e_call (f as ks ord en st) : evE F (.call f as ks ord) en st = (evEs F as en st).bind (kCall1 F f ks ord en) := id rfl
theorem k_call1 (f ks ord en vs st) : kCall1 F f ks ord en vs st = (evEs F ks en st).bind (kCall2 F f ord vs) := id rfl
theorem k_call2 (f ord vs ws st) : kCall2 F f ord vs ws st = match arrD ord (vs ++ ws) with | some xs => F f xs st | none => .stuck := id rfl
def kBlt (f : Bf) (vs : List Vv) (st : Sto) : R Vv := opn (bfD f) vs st
def kIsi (t : String) (x : Vv) (st : Sto) : R Vv := op1 (fun d => some (isiD t d)) x st
theorem e_isi (a t en st) : evE F (.isi a t) en st = (evE F a en st).bind (kIsi t) := id rfl
theorem k_isi (t) (d : D) (st) : kIsi t (.d d) st = .ok (.d (isiD t d)) st := id rfl
theorem e_tin (neg t a en st) : evE F (.tin neg t a) en st = (evE F a en st).bind (kTin neg t) := id rfl
theorem k_tinP (t) (z : Str) (st) : kTin false t (.d (.str z)) st = .ok (.d (.bl (t.lookup z).isSome)) st := id rfl
theorem k_tinN (t) (z : Str) (st) : kTin true t (.d (.str z)) st = .ok (.d (.bl (!(t.lookup z).isSome))) st := id rfl
theorem e_tget (t a en st) : evE F (.tget t a) en st = (evE F a en st).bind (kTget t) := id rfl
theorem k_tget (t) (z : Str) (st) : kTget t (.d (.str z)) st = give (t.lookup z) st := id rfl
theorem e_blt (f as en st) : evE F (.blt f as) en st = (evEs F as en st).bind (kBlt f) := id rfl
theorem k_blt (f vs st) : kBlt f vs st = match ders st vs with | some as => give (bfD f as) st | none => .stuck := id rfl
def kMeth1 (m : Mf) (as : Es) (en : En) (x : Vv) (st : Sto) : R Vv := if recv m x st then (evEs F as en st).bind fun vs st => doM m x vs st else .stuck
def kMeth2 (m : Mf) (x : Vv) (vs : List Vv) (st : Sto) : R Vv := doM m x vs st
theorem e_meth (m o as en st) : evE F (.meth m o as) en st = (evE F o en st).bind (kMeth1 F m as en) := id rfl
theorem k_meth1 (m as en x st) : kMeth1 F m as en x st = if recv m x st = true then (evEs F as en st).bind (kMeth2 m x) else .stuck := id rfl
theorem k_meth2 (m x vs st) : kMeth2 m x vs st = doM m x vs st := id rfl
def kTup (vs : List Vv) (st : Sto) : R Vv := match pures vs with | some xs => if xs.length ≤ sizeLine then .ok (.d (.tup xs)) st else .stuck | none => .stuck
def kLst (vs : List Vv) (st : Sto) : R Vv := match pures vs with | some xs => if xs.length ≤ sizeLine then .ok (.d (.lst xs)) st else .stuck | none => .stuck
theorem e_tup (as en st) : evE F (.tup as) en st = (evEs F as en st).bind kTup := id rfl
theorem e_lst (as en st) : evE F (.lst as) en st = (evEs F as en st).bind kLst := id rfl
theorem k_tup (xs : List D) (vs st) (h : pures vs = some xs) (l : xs.length ≤ sizeLine) : kTup vs st = .ok (.d (.tup xs)) st := by unfold kTup; simp only [h, if_pos l]
theorem k_lst (xs : List D) (vs st) (h : pures vs = some xs) (l : xs.length ≤ sizeLine) : kLst vs st = .ok (.d (.lst xs)) st := by unfold kLst; simp only [h, if_pos l]
theorem e_dcd (as en st) : evE F (.dcd as) en st = (evEs F as en st).calm.bind kDcd := id rfl
theorem e_dct0 (en st) : evE F .dct0 en st = .ok (.d (.dct [] [])) st := id rfl
def kIdx1 (b : E) (en : En) (x : Vv) (st : Sto) : R Vv := (evE F b en st).bind fun y st => op2 idxD x y st
def kIdx2 (x y : Vv) (st : Sto) : R Vv := op2 idxD x y st
theorem e_idx (a b en st) : evE F (.idx a b) en st = (evE F a en st).bind (kIdx1 F b en) := id rfl
theorem k_idx1 (b en x st) : kIdx1 F b en x st = (evE F b en st).bind (kIdx2 x) := id rfl
theorem k_idx2 (x y : D) (st) : kIdx2 (.d x) (.d y) st = give (idxD x y) st := id rfl
theorem k_idx2r (n : Nat) (xs : List D) (y : D) (st : Sto) (h : st[n]? = some (.lst xs)) : kIdx2 (.ref n) (.d y) st = give (idxD (.lst xs) y) st := by
  unfold kIdx2 op2 der
  simp only [h]
def kSlc1 (lo hi : Eo) (en : En) (x : Vv) (st : Sto) : R Vv := (evO F lo en st).bind fun l st => (evO F hi en st).bind fun h st => op1 (fun d => slcD d l h) x st
def kSlc2 (hi : Eo) (en : En) (x : Vv) (l : Option Int) (st : Sto) : R Vv := (evO F hi en st).bind fun h st => op1 (fun d => slcD d l h) x st
def kSlc3 (x : Vv) (l h : Option Int) (st : Sto) : R Vv := op1 (fun d => slcD d l h) x st
theorem e_slc (a lo hi en st) : evE F (.slc a lo hi) en st = (evE F a en st).bind (kSlc1 F lo hi en) := id rfl
theorem k_slc1 (lo hi en x st) : kSlc1 F lo hi en x st = (evO F lo en st).bind (kSlc2 F hi en x) := id rfl
theorem k_slc2 (hi en x l st) : kSlc2 F hi en x l st = (evO F hi en st).bind (kSlc3 x l) := id rfl
theorem k_slc3 (x : D) (l h st) : kSlc3 (.d x) l h st = give (slcD x l h) st := id rfl
def kO (x : Vv) (st : Sto) : R (Option Int) := match x with | .d (.int i) => .ok (some i) st | _ => .stuck
theorem o_none (en st) : evO F .none en st = .ok none st := id rfl
theorem o_some (a en st) : evO F (.some a) en st = (evE F a en st).bind kO := id rfl
theorem k_o (i st) : kO (.d (.int i)) st = .ok (some i) st := id rfl
theorem e_new (a en st) : evE F (.new a) en st = (evE F a en st).bind newV := id rfl
theorem k_new (xs st) : newV (.d (.lst xs)) st = .ok (.ref st.length) (st ++ [.lst xs]) := id rfl
def lcG (tg : Tg) (x : D) (en : En) (st : Sto) : R En := evG F tg (.d x) en st
def kLc (elt : E) (tg : Tg) (ifs : Es) (own : List Nat) (en : En) (w : Wl) (st : Sto) : R Vv := if w.xs.length ≤ sizeLine then (lcLoop w.pins (lcG F tg) (evT F ifs) (evE F elt) (wipeE en own) w.xs [] st).calm else .stuck
theorem e_lc (elt tg it ifs own en st) : evE F (.lc elt tg it ifs own) en st = (evI F it en st).bind (kLc F elt tg ifs own en) := id rfl
theorem k_lc (elt tg ifs own en xs ps st) : kLc F elt tg ifs own en ⟨xs, ps⟩ st = if xs.length ≤ sizeLine then (lcLoop ps (lcG F tg) (evT F ifs) (evE F elt) (wipeE en own) xs [] st).calm else .stuck := id rfl
theorem lc_g (tg x en st) : lcG F tg x en st = evG F tg (.d x) en st := id rfl
def kEs1 (r : Es) (en : En) (x : Vv) (st : Sto) : R (List Vv) := (evEs F r en st).bind fun xs st => .ok (x :: xs) st
def kEs2 (x : Vv) (xs : List Vv) (st : Sto) : R (List Vv) := .ok (x :: xs) st
theorem es_nil (en st) : evEs F .nil en st = .ok [] st := id rfl
theorem es_cons (a r en st) : evEs F (.cons a r) en st = (evE F a en st).bind (kEs1 F r en) := id rfl
theorem k_es1 (r en x st) : kEs1 F r en x st = (evEs F r en st).bind (kEs2 x) := id rfl
theorem k_es2 (x xs st) : kEs2 x xs st = .ok (x :: xs) st := id rfl
def kT (r : Es) (en : En) (x : Vv) (st : Sto) : R Bool := (truV x st).bind fun k st => if k then evT F r en st else .ok false st
theorem t_nil (en st) : evT F .nil en st = .ok true st := id rfl
theorem t_cons (a r en st) : evT F (.cons a r) en st = (evE F a en st).bind (kT F r en) := id rfl
theorem k_t (r en) (x : Bool) (st) : kT F r en (.d (.bl x)) st = if x = true then evT F r en st else .ok false st := id rfl
theorem i_val (a en st) : evI F (.val a) en st = (evE F a en st).bind kIv := id rfl
theorem i_range (a en st) : evI F (.range1 a) en st = (evE F a en st).bind kIr := id rfl
theorem i_enum (a en st) : evI F (.enum a) en st = (evE F a en st).bind kEn := id rfl
theorem i_zip (q as en st) : evI F (.zip q as) en st = (evEs F as en st).bind (kZip q) := id rfl
theorem k_zip (q) (x y : Vv) (xs ys ps rs) (st) (h1 : rowT x st = some (xs, ps)) (h2 : rowT y st = some (ys, rs)) (hl : q = true → xs.length = ys.length) : kZip q [x, y] st = .ok ⟨zipD xs ys, ps ++ rs⟩ st := by
  unfold kZip
  simp only [h1, h2]
  rw [if_pos hl]
theorem k_iv (d : D) (xs st) (h : itemsD d = some xs) : kIv (.d d) st = .ok ⟨xs, []⟩ st := by unfold kIv; simp only [h]
theorem k_ivl (xs : List D) (st) : kIv (.d (.lst xs)) st = .ok ⟨xs, []⟩ st := id rfl
theorem k_ivt (xs : List D) (st) : kIv (.d (.tup xs)) st = .ok ⟨xs, []⟩ st := id rfl
theorem k_ivs (s : Str) (st) : kIv (.d (.str s)) st = .ok ⟨s.cps.toList.map fun c => .str ⟨#[c]⟩, []⟩ st := id rfl
theorem k_ivr (n : Nat) (xs : List D) (st : Sto) (h : st[n]? = some (.lst xs)) : kIv (.ref n) st = .ok ⟨xs, [(n, xs)]⟩ st := by unfold kIv; simp only [h]
theorem k_ir (n : Int) (st) (h : -(2 ^ 62) ≤ n ∧ n < 2 ^ 62) : kIr (.d (.int n)) st = .ok ⟨(List.range n.toNat).map fun (i : Nat) => D.int i, []⟩ st := by unfold kIr; simp only [if_pos h]
theorem k_ent (xs : List D) (st) : kEn (.d (.tup xs)) st = .ok ⟨enumD 0 xs, []⟩ st := id rfl
theorem k_enl (xs : List D) (st) : kEn (.d (.lst xs)) st = .ok ⟨enumD 0 xs, []⟩ st := id rfl
theorem pin_nil (st) : pinOk [] st = true := id rfl
theorem pin_one (n : Nat) (xs : List D) (st : Sto) (h : st[n]? = some (.lst xs)) : pinOk [(n, xs)] st = true := by
  simp only [pinOk, List.all_cons, List.all_nil, h, sameDs_refl, Bool.and_self]
theorem g_name (i v en st) : evG F (.name i) v en st = .ok (en.set i (some v)) st := id rfl
theorem g_star (is j nw v en st) : evG F (.star is j nw) v en st = starV is j nw v en st := id rfl
theorem g_tup (ts) (xs : List D) (en st) : evG F (.tup ts) (.d (.tup xs)) en st = evGs F ts xs en st := id rfl
def kSub1 (i : E) (v : Vv) (en : En) (x : Vv) (st : Sto) : R En := (evE F i en st).bind fun y st => (putV x y v st).bind fun _ st => .ok en st
def kSub2 (v : Vv) (en : En) (x y : Vv) (st : Sto) : R En := (putV x y v st).bind fun _ st => .ok en st
theorem g_sub (o i v en st) : evG F (.sub o i) v en st = (evE F o en st).bind (kSub1 F i v en) := id rfl
theorem k_sub1 (i v en x st) : kSub1 F i v en x st = (evE F i en st).bind (kSub2 v en x) := id rfl
theorem k_sub2 (n : Nat) (k : Int) (v : D) (en) (st : Sto) (xs : List D) (j : Nat) (h : st[n]? = some (.lst xs)) (hj : ixN xs.length k = some j) : kSub2 (.d v) en (.ref n) (.d (.int k)) st = .ok en (st.set n (.lst (xs.set j v))) := by
  unfold kSub2 putV
  simp only [h, hj]
  rfl
def kGs (r : Tgs) (xs : List D) (en : En) (st : Sto) : R En := evGs F r xs en st
theorem gs_nil (en st) : evGs F .nil [] en st = .ok en st := id rfl
theorem gs_cons (t r x xs en st) : evGs F (.cons t r) (x :: xs) en st = (evG F t (.d x) en st).bind (kGs F r xs) := id rfl
theorem k_gs (r xs en st) : kGs F r xs en st = evGs F r xs en st := id rfl
/-! statements -/
def kAsg1 (t : Tg) (en : En) (v : Vv) (st : Sto) : RS := (evG F t v en st).calm.go en fun en st => .nx en st
theorem s_asg (t e en st) : evS F (.asg t e) en st = (evE F e en st).go en (kAsg1 F t en) := id rfl
def kNx (en : En) (st : Sto) : RS := .nx en st
theorem k_asg1 (t en v st) : kAsg1 F t en v st = (evG F t v en st).calm.go en kNx := id rfl
theorem k_nx (en st) : kNx en st = .nx en st := id rfl
def kExpr (en : En) (v : Vv) (st : Sto) : RS := .nx en st
theorem s_expr (e en st) : evS F (.expr e) en st = (evE F e en st).go en (kExpr en) := id rfl
theorem k_expr (en v st) : kExpr en v st = .nx en st := id rfl
def kRet (v : Vv) (st : Sto) : RS := .rt v st
theorem s_ret (e en st) : evS F (.ret e) en st = (evE F e en st).go en kRet := id rfl
theorem k_ret (v st) : kRet v st = .rt v st := id rfl
def kIf (a b : Ss) (en : En) (k : Bool) (st : Sto) : RS := if k then evSs F a en st else evSs F b en st
theorem s_iff (c a b en st) : evS F (.iff c a b) en st = ((evE F c en st).bind truV).go en (kIf F a b en) := id rfl
theorem k_if (a b en k st) : kIf F a b en k st = if k = true then evSs F a en st else evSs F b en st := id rfl
def kFor (t : Tg) (b : Ss) (en : En) (w : Wl) (st : Sto) : RS := forLoop w.pins (lcG F t) (evSs F b) w.xs en st
theorem s_for (t it b en st) : evS F (.for_ t it b) en st = (evI F it en st).go en (kFor F t b en) := id rfl
theorem k_for (t b en xs ps st) : kFor F t b en ⟨xs, ps⟩ st = forLoop ps (lcG F t) (evSs F b) xs en st := id rfl
def kAug1 (i : Nat) (op : Operator) (x : Vv) (en : En) (y : Vv) (st : Sto) : RS := (op2 (augD op) x y st).go en fun z st => .nx (en.set i (some z)) st
theorem s_aug (i op e en st) : evS F (.aug i op e) en st = (match en[i]? with | some (some x) => (evE F e en st).go en (kAug1 i op x en) | _ => .stuck) := id rfl
theorem s_pass (en st) : evS F .pass en st = .nx en st := id rfl
def whC (c : E) (en : En) (st : Sto) : R Bool := (evE F c en st).bind truV
theorem wh_c (c en st) : whC F c en st = (evE F c en st).bind truV := id rfl
theorem s_while (c b en st) : evS F (.while_ c b) en st = whLoop (whC F c) (evSs F b) WF en st := id rfl
def kPar (is : List Nat) (en : En) (vs : List Vv) (st : Sto) : RS := match setAll is vs en with | some en => .nx en st | none => .stuck
theorem s_par (is as en st) : evS F (.par is as) en st = (evEs F as en st).go en (kPar is en) := id rfl
theorem k_par (is en vs st) : kPar is en vs st = match setAll is vs en with | some en => .nx en st | none => .stuck := id rfl
def kSs (r : Ss) (en : En) (st : Sto) : RS := evSs F r en st
theorem ss_nil (en st) : evSs F .nil en st = .nx en st := id rfl
theorem ss_cons (s r en st) : evSs F (.cons s r) en st = (evS F s en st).seq (kSs F r) := id rfl
theorem k_ss (r en st) : kSs F r en st = evSs F r en st := id rfl
end
end TW
namespace TW
open PySem PySem.Spec PyProof.Rows L2
/-! ### joining of ways -/
theorem ite_and (x y : Bool) (st : Sto) : (if x = true then (R.ok (.d (.bl y)) st : R Vv) else .ok (.d (.bl x)) st) = .ok (.d (.bl (x && y))) st := by cases x <;> rfl
theorem ite_or (x y : Bool) (st : Sto) : (if x = true then (R.ok (.d (.bl x)) st : R Vv) else .ok (.d (.bl y)) st) = .ok (.d (.bl (x || y))) st := by cases x <;> rfl
theorem ite_okb (c x y : Bool) (st : Sto) : (if c = true then (R.ok (.d (.bl x)) st : R Vv) else .ok (.d (.bl y)) st) = .ok (.d (.bl (if c = true then x else y))) st := by cases c <;> rfl
theorem ite_rtb (c x y : Bool) (st : Sto) : (if c = true then (RS.rt (.d (.bl x)) st : RS) else .rt (.d (.bl y)) st) = .rt (.d (.bl (if c = true then x else y))) st := by cases c <;> rfl
theorem ite_f (c y : Bool) : (if c = true then false else y) = (!c && y) := by cases c <;> rfl
theorem ite_t (c y : Bool) : (if c = true then true else y) = (c || y) := by cases c <;> rfl
theorem ite_seq (c : Bool) (a b : RS) (f : En → Sto → RS) : (if c = true then a else b).seq f = if c = true then a.seq f else b.seq f := by cases c <;> rfl
theorem ite_bind (c : Bool) (a b : R Vv) (f : Vv → Sto → R Vv) : (if c = true then a else b).bind f = if c = true then a.bind f else b.bind f := by cases c <;> rfl
theorem bools_map {α : Type} (f : α → Bool) : ∀ xs : List α, bools (xs.map fun d => .bl (f d)) = some (xs.map f)
  | [] => rfl
  | x :: xs => by simp only [List.map_cons, bools, bools_map f xs]
theorem all_map {α : Type} (f : α → Bool) (xs : List α) : allD [.lst (xs.map fun d => .bl (f d))] = some (.bl (xs.all f)) := by
  simp only [allD, bools_map f xs]
  congr 2
  rw [List.all_map]
  rfl
theorem any_map {α : Type} (f : α → Bool) (xs : List α) : anyD [.lst (xs.map fun d => .bl (f d))] = some (.bl (xs.any f)) := by
  simp only [anyD, bools_map f xs]
  congr 2
  rw [List.any_map]
  rfl
theorem all_id (xs : List Bool) : xs.all id = xs.all fun x => x := rfl
/-- a comprehension, nothing left out, over encoded items -/
theorem lc_enc {α : Type} {e : α → D} {f : α → D} {g : D → En → Sto → R En} {t : En → Sto → R Bool} {el : En → Sto → R Vv} {en : En} {st : Sto} (xs : List α) (acc : List D) (h : ∀ x ∈ xs, ∃ en2, g (e x) en st = .ok en2 st ∧ t en2 st = .ok true st ∧ el en2 st = .ok (.d (f x)) st) :
    lcLoop [] g t el en (xs.map e) acc st = .ok (.d (.lst (acc ++ xs.map f))) st := by
  induction xs generalizing acc with
  | nil => rw [List.map_nil, lc_nil _ _ _ _ _ _ _ (pin_nil st)]; simp
  | cons x xs ih =>
    obtain ⟨en2, h1, h2, h3⟩ := h x (by simp)
    rw [List.map_cons, lc_cons _ _ _ _ _ _ _ _ _ (pin_nil st), h1, bind_ok, h2, bind_ok, if_pos rfl, h3, bind_ok]
    show lcLoop [] g t el en (xs.map e) (acc ++ [f x]) st = _
    rw [ih (acc ++ [f x]) fun y hy => h y (List.mem_cons_of_mem _ hy)]
    simp
/-- .. with a test -/
theorem lc_encF {α : Type} {e : α → D} {f : α → D} {p : α → Bool} {g : D → En → Sto → R En} {t : En → Sto → R Bool} {el : En → Sto → R Vv} {en : En} {st : Sto} (xs : List α) (acc : List D) (h : ∀ x ∈ xs, ∃ en2, g (e x) en st = .ok en2 st ∧ t en2 st = .ok (p x) st ∧ (p x = true → el en2 st = .ok (.d (f x)) st)) :
    lcLoop [] g t el en (xs.map e) acc st = .ok (.d (.lst (acc ++ (xs.filter p).map f))) st := by
  induction xs generalizing acc with
  | nil => rw [List.map_nil, lc_nil _ _ _ _ _ _ _ (pin_nil st)]; simp
  | cons x xs ih =>
    obtain ⟨en2, h1, h2, h3⟩ := h x (by simp)
    have ih' := fun acc => ih acc fun y hy => h y (List.mem_cons_of_mem _ hy)
    rw [List.map_cons, lc_cons _ _ _ _ _ _ _ _ _ (pin_nil st), h1, bind_ok, h2, bind_ok]
    cases hp : p x with
    | true =>
      rw [if_pos rfl, h3 hp, bind_ok]
      show lcLoop [] g t el en (xs.map e) (acc ++ [f x]) st = _
      rw [ih' (acc ++ [f x]), List.filter_cons_of_pos hp]
      simp
    | false =>
      rw [if_neg (by simp), ih' acc, List.filter_cons_of_neg (by simp [hp])]
/-- .. the target a name -/
theorem lc_name {F : Fs} {ps : List (Nat × List D)} {i : Nat} {el : E} {en : En} {st : Sto} {f : D → D} (hp : pinOk ps st = true) (xs acc : List D) (h : ∀ x ∈ xs, evE F el (en.set i (some (.d x))) st = .ok (.d (f x)) st) :
    lcLoop ps (lcG F (.name i)) (evT F .nil) (evE F el) en xs acc st = .ok (.d (.lst (acc ++ xs.map f))) st :=
  lc_map hp xs acc fun x hx => ⟨_, rfl, rfl, h x hx⟩
theorem lc_true {F : Fs} {ps : List (Nat × List D)} {tg : Tg} {el : E} {en : En} {st : Sto} (hp : pinOk ps st = true) (xs : List D) (h : ∀ x ∈ xs, ∃ en2, evG F tg (.d x) en st = .ok en2 st ∧ evE F el en2 st = .ok (.d (.bl true)) st) :
    ((lcLoop ps (lcG F tg) (evT F .nil) (evE F el) en xs [] st).calm.bind fun x st => opn (bfD .all) [x] st) = .ok (.d (.bl true)) st := by
  rw [lc_map (f := fun _ => .bl true) hp xs [] fun x hx => by obtain ⟨en2, h1, h2⟩ := h x hx; exact ⟨en2, h1, rfl, h2⟩]
  show give (allD [.lst (xs.map fun _ => .bl true)]) st = _
  rw [all_map (fun _ => true)]
  simp [give]
/-- a comprehension that changes the store -/
theorem lc_invN {F : Fs} {i : Nat} {el : E} {en : En} {I : List D → Sto → Prop} (xs acc : List D) (st : Sto) (h0 : I acc st) (hs : ∀ x ∈ xs, ∀ acc st, I acc st → ∃ y st2, evE F el (en.set i (some (.d x))) st = .ok (.d y) st2 ∧ I (acc ++ [y]) st2) :
    ∃ ys st2, lcLoop [] (lcG F (.name i)) (evT F .nil) (evE F el) en xs acc st = .ok (.d (.lst ys)) st2 ∧ I ys st2 ∧ ys.length = acc.length + xs.length := by
  induction xs generalizing acc st with
  | nil => exact ⟨acc, st, by rw [lc_nil _ _ _ _ _ _ _ (pin_nil st)], h0, rfl⟩
  | cons x xs ih =>
    obtain ⟨y, st1, h1, h2⟩ := hs x (by simp) acc st h0
    obtain ⟨ys, st2, h3, h4, h5⟩ := ih (acc ++ [y]) st1 h2 fun z hz => hs z (List.mem_cons_of_mem _ hz)
    refine ⟨ys, st2, ?_, h4, by simp at h5; simp; omega⟩
    rw [lc_cons _ _ _ _ _ _ _ _ _ (pin_nil st)]
    show (R.ok (en.set i (some (.d x))) st).bind _ = _
    rw [bind_ok]
    show (R.ok true st).bind _ = _
    rw [bind_ok, if_pos rfl, h1, bind_ok]
    exact h3
theorem recv_app (st : Sto) (xs : List D) : recv .append (.ref st.length) (st ++ [.lst xs]) = true := by simp [recv, isLst]
theorem do_app (st : Sto) (xs : List D) (x : D) (h : xs.length < 16777216) : doM .append (.ref st.length) [.d x] (st ++ [.lst xs]) = .ok (.d .non) (st ++ [.lst (xs ++ [x])]) := by
  have h' : xs.length < sizeLine := by rw [sizeLine_eq]; exact h
  simp [doM, appV, h']
theorem get_end (st : Sto) (o : MO) : (st ++ [o])[st.length]? = some o := by simp
/-- a loop carries a state that stands for the slots and the store -/
theorem for_rel {α β : Type} {e : α → D} {g : D → En → Sto → R En} {b : En → Sto → RS} {I : β → En → Sto → Prop} {f : β → α → β} (xs : List α) (s : β) (en : En) (st : Sto) (h0 : I s en st)
    (hs : ∀ x ∈ xs, ∀ s en st, I s en st → ∃ en1 st1 en2 st2, g (e x) en st = .ok en1 st1 ∧ b en1 st1 = .nx en2 st2 ∧ I (f s x) en2 st2) :
    ∃ en2 st2, forLoop [] g b (xs.map e) en st = .nx en2 st2 ∧ I (xs.foldl f s) en2 st2 := by
  induction xs generalizing s en st with
  | nil => exact ⟨en, st, rfl, h0⟩
  | cons x xs ih =>
    obtain ⟨en1, st1, en2, st2, h1, h2, h3⟩ := hs x (by simp) s en st h0
    obtain ⟨en3, st3, h4, h5⟩ := ih (f s x) en2 st2 h3 fun y hy => hs y (List.mem_cons_of_mem _ hy)
    exact ⟨en3, st3, by rw [List.map_cons, for_cons, h1, calm_ok', go_ok, k_body, h2, turn_nx, k_turn, h4], h5⟩
theorem kirN (m : Nat) (st : Sto) (hm : m < 4611686018427387904) : kIr (.d (.int m)) st = .ok ⟨(List.range m).map fun (i : Nat) => D.int i, []⟩ st := by
  rw [k_ir _ _ (by omega)]
  simp only [Int.toNat_natCast]
theorem lcg_name (F : Fs) (i : Nat) (x : D) (en : En) (st : Sto) : lcG F (.name i) x en st = .ok (en.set i (some (.d x))) st := rfl
theorem for_relN {α β : Type} {e : α → D} {F : Fs} {i : Nat} {b : Ss} {I : β → En → Sto → Prop} {f : β → α → β} (xs : List α) (s : β) (en : En) (st : Sto) (h0 : I s en st)
    (hs : ∀ x ∈ xs, ∀ s en st, I s en st → ∃ en2 st2, evSs F b (en.set i (some (.d (e x)))) st = .nx en2 st2 ∧ I (f s x) en2 st2) :
    ∃ en2 st2, forLoop [] (lcG F (.name i)) (evSs F b) (xs.map e) en st = .nx en2 st2 ∧ I (xs.foldl f s) en2 st2 :=
  for_rel xs s en st h0 fun x hx s en st h => by
    obtain ⟨en2, st2, h1, h2⟩ := hs x hx s en st h
    exact ⟨_, _, en2, st2, lcg_name F i _ en st, h1, h2⟩
theorem for_invN {α : Type} {e : α → D} {F : Fs} {i : Nat} {b : Ss} {I : En → Sto → Prop} (xs : List α) (en : En) (st : Sto) (h0 : I en st)
    (hs : ∀ x ∈ xs, ∀ en st, I en st → ∃ en2 st2, evSs F b (en.set i (some (.d (e x)))) st = .nx en2 st2 ∧ I en2 st2) :
    ∃ en2 st2, forLoop [] (lcG F (.name i)) (evSs F b) (xs.map e) en st = .nx en2 st2 ∧ I en2 st2 := by
  obtain ⟨en2, st2, h1, h2⟩ := for_relN (β := Unit) (f := fun _ _ => ()) (I := fun _ => I) (e := e) (F := F) (i := i) (b := b) xs () en st h0 (fun x hx _ => hs x hx)
  exact ⟨en2, st2, h1, h2⟩
/-- a loop keeps what holds -/
theorem for_inv {α : Type} {e : α → D} {g : D → En → Sto → R En} {b : En → Sto → RS} {I : En → Sto → Prop} (xs : List α) (en : En) (st : Sto) (h0 : I en st)
    (hs : ∀ x ∈ xs, ∀ en st, I en st → ∃ en1 st1 en2 st2, g (e x) en st = .ok en1 st1 ∧ b en1 st1 = .nx en2 st2 ∧ I en2 st2) :
    ∃ en2 st2, forLoop [] g b (xs.map e) en st = .nx en2 st2 ∧ I en2 st2 := by
  obtain ⟨en2, st2, h1, h2⟩ := for_rel (β := Unit) (f := fun _ _ => ()) (I := fun _ => I) (e := e) (g := g) (b := b) xs () en st h0 (fun x hx _ => hs x hx)
  exact ⟨en2, st2, h1, h2⟩
theorem mulI {i j : Int} {a b : Nat} (h1 : i.natAbs < 2 ^ a) (h2 : j.natAbs < 2 ^ b) (h : a + b < 100000000) : binD .Mult (.int i) (.int j) = some (.int (i * j)) := by
  have q : ∀ {i : Int} {a : Nat}, i.natAbs < 2 ^ a → i.natAbs.log2 ≤ a := by
    intro i a h
    by_cases h0 : i.natAbs = 0
    · rw [h0]; simp
    · exact Nat.le_of_lt ((Nat.log2_lt h0).mpr h)
  simp only [binD]
  have := q h1
  have := q h2
  rw [if_pos (.inr (.inr (by omega)))]
theorem mulL {i j : Int} (h : i.natAbs < 18446744073709551616) : binD .Mult (.int i) (.int j) = some (.int (i * j)) := by
  simp only [binD]
  rw [if_pos (.inl h)]
theorem mulR {i j : Int} (h : j.natAbs < 18446744073709551616) : binD .Mult (.int i) (.int j) = some (.int (i * j)) := by
  simp only [binD]
  rw [if_pos (.inr (.inl h))]
theorem log2_le {n a : Nat} (h : n < 2 ^ a) : n.log2 ≤ a := by
  by_cases h0 : n = 0
  · rw [h0]; simp
  · exact Nat.le_of_lt ((Nat.log2_lt h0).mpr h)
theorem addI (i j : Int) : binD .Add (.int i) (.int j) = some (.int (i + j)) := rfl
theorem subI (i j : Int) : binD .Sub (.int i) (.int j) = some (.int (i - j)) := rfl
theorem mod_pos {i j : Int} (h : 0 < j) : binD .Mod (.int i) (.int j) = some (.int (i % j)) := by
  simp only [binD]
  rw [if_pos (by omega), Int.fmod_eq_emod_of_nonneg _ (by omega)]
theorem fdiv_pos {i j : Int} {b : Nat} (h : 0 < j) (h2 : j.natAbs < 2 ^ b) (hb : b < 9000) : binD .FloorDiv (.int i) (.int j) = some (.int (i / j)) := by
  have a := log2_le h2
  simp only [binD]
  rw [if_pos (by omega), Int.fdiv_eq_ediv_of_nonneg _ (by omega)]
theorem absI (i : Int) : absD [.int i] = some (.int i.natAbs) := by
  simp only [absD]
  congr 2
  split <;> omega
/-! ### Euclid -/
theorem euclid {c : En → Sto → R Bool} {b : En → Sto → RS} {mk : Nat → Nat → En} {st : Sto} (hc0 : ∀ x, c (mk x 0) st = .ok false st) (hc1 : ∀ x y, 0 < y → c (mk x y) st = .ok true st) (hb : ∀ x y, 0 < y → b (mk x y) st = .nx (mk y (x % y)) st) :
    ∀ (n x y fuel : Nat), y < 2 ^ n → 2 * n + 1 ≤ fuel → whLoop c b fuel (mk x y) st = .nx (mk (Nat.gcd x y) 0) st := by
  have h0 : ∀ x fuel, 1 ≤ fuel → whLoop c b fuel (mk x 0) st = .nx (mk x 0) st := by
    intro x fuel hf
    obtain ⟨f, rfl⟩ : ∃ f, fuel = f + 1 := ⟨fuel - 1, by omega⟩
    simp only [whLoop, hc0, go_ok, Bool.false_eq_true, if_false]
  have h1 : ∀ x y fuel, 0 < y → whLoop c b (fuel + 1) (mk x y) st = whLoop c b fuel (mk y (x % y)) st := by
    intro x y fuel hy
    simp only [whLoop, hc1 x y hy, go_ok, if_true, hb x y hy, turn_nx]
  intro n
  induction n with
  | zero =>
    intro x y fuel hy hf
    have : y = 0 := by omega
    subst this
    rw [h0 x fuel (by omega), Nat.gcd_zero_right]
  | succ n ih =>
    intro x y fuel hy hf
    by_cases hz : y = 0
    · subst hz
      rw [h0 x fuel (by omega), Nat.gcd_zero_right]
    · obtain ⟨f, rfl⟩ : ∃ f, fuel = f + 2 := ⟨fuel - 2, by omega⟩
      rw [h1 x y (f + 1) (by omega)]
      have g1 : Nat.gcd x y = Nat.gcd y (x % y) := by rw [Nat.gcd_comm, Nat.gcd_rec, Nat.gcd_comm]
      by_cases hr : x % y = 0
      · rw [hr, h0 y (f + 1) (by omega), g1, hr, Nat.gcd_zero_right]
      · rw [h1 y (x % y) f (by omega), g1]
        have g2 : Nat.gcd y (x % y) = Nat.gcd (x % y) (y % (x % y)) := by rw [Nat.gcd_comm, Nat.gcd_rec, Nat.gcd_comm]
        rw [g2]
        refine ih _ _ f ?_ (by omega)
        have a1 : x % y < y := Nat.mod_lt _ (by omega)
        have a2 : y % (x % y) < x % y := Nat.mod_lt _ (by omega)
        have a3 : y % (x % y) + (x % y) ≤ y := by
          have := Nat.div_add_mod y (x % y)
          have h3 : 1 ≤ y / (x % y) := Nat.div_pos (by omega) (by omega)
          have h4 := Nat.mul_le_mul_left (x % y) h3
          omega
        have : 2 ^ (n + 1) = 2 * 2 ^ n := by rw [Nat.pow_succ, Nat.mul_comm]
        omega
theorem modN {x y : Nat} (h : 0 < y) : binD .Mod (.int x) (.int y) = some (.int ((x % y : Nat) : Int)) := by
  rw [mod_pos (by omega)]
  rfl
/-! ### fractions as rational numbers -/
def qD (q : Rat) : D := .tup [.int q.num, .int q.den]
def Fit (n : Nat) (q : Rat) : Prop := q.num.natAbs < 2 ^ n ∧ q.den < 2 ^ n
theorem Fit.mono {n m : Nat} {q : Rat} (h : Fit n q) (l : n ≤ m) : Fit m q :=
  ⟨Nat.lt_of_lt_of_le h.1 (Nat.pow_le_pow_right (by omega) l), Nat.lt_of_lt_of_le h.2 (Nat.pow_le_pow_right (by omega) l)⟩
theorem natAbs_div_le (a : Int) (g : Nat) : (a / (g : Int)).natAbs ≤ a.natAbs ∨ g = 0 := by
  by_cases h : g = 0
  · exact .inr h
  · left
    rcases Int.le_total 0 a with h0 | h0
    · have h1 : a / (g : Int) ≤ a := Int.ediv_le_self _ h0
      have h2 : 0 ≤ a / (g : Int) := Int.ediv_nonneg h0 (by omega)
      omega
    · have h2 : a / (g : Int) ≤ 0 := Int.ediv_nonpos_of_nonpos_of_neg h0 (by omega)
      have : a ≤ a / (g : Int) := by
        rw [Int.le_ediv_iff_mul_le (by omega)]
        have : (g : Int) ≥ 1 := by omega
        have := Int.mul_le_mul_of_nonpos_left h0 this
        omega
      omega
theorem fit_mk {t : Int} {b n : Nat} (h0 : b ≠ 0) (h1 : t.natAbs < 2 ^ n) (h2 : b < 2 ^ n) : Fit n (mkRat t b) := by
  refine ⟨?_, ?_⟩
  · rw [Rat.num_mkRat, if_neg h0]
    rcases natAbs_div_le t (b.gcd t.natAbs) with h | h
    · omega
    · have := Nat.gcd_pos_of_pos_left t.natAbs (show 0 < b by omega)
      omega
  · rw [Rat.den_mkRat, if_neg h0]
    exact Nat.lt_of_le_of_lt (Nat.div_le_self _ _) h2
theorem Fit.add {a b : Rat} {n m : Nat} (ha : Fit n a) (hb : Fit m b) : Fit (n + m + 1) (a + b) := by
  rw [Rat.add_def']
  refine fit_mk (Nat.mul_ne_zero a.den_nz b.den_nz) ?_ ?_
  · have h1 : a.num.natAbs * b.den < 2 ^ n * 2 ^ m := Nat.mul_lt_mul'' ha.1 hb.2
    have h2 : b.num.natAbs * a.den < 2 ^ m * 2 ^ n := Nat.mul_lt_mul'' hb.1 ha.2
    have h3 : (a.num * b.den + b.num * a.den).natAbs ≤ a.num.natAbs * b.den + b.num.natAbs * a.den := by
      refine Nat.le_trans (Int.natAbs_add_le _ _) ?_
      simp [Int.natAbs_mul]
    rw [Nat.pow_succ, Nat.pow_add]
    rw [Nat.mul_comm (2 ^ m)] at h2
    omega
  · have h1 : a.den * b.den < 2 ^ n * 2 ^ m := Nat.mul_lt_mul'' ha.2 hb.2
    rw [Nat.pow_succ, Nat.pow_add]
    omega
theorem Fit.neg {a : Rat} {n : Nat} (ha : Fit n a) : Fit n (-a) := ⟨by simpa using ha.1, by simpa using ha.2⟩
theorem Fit.sub {a b : Rat} {n m : Nat} (ha : Fit n a) (hb : Fit m b) : Fit (n + m + 1) (a - b) := by
  rw [Rat.sub_eq_add_neg]
  exact ha.add hb.neg
theorem Fit.mul {a b : Rat} {n m : Nat} (ha : Fit n a) (hb : Fit m b) : Fit (n + m) (a * b) := by
  rw [Rat.mul_def']
  refine fit_mk (Nat.mul_ne_zero a.den_nz b.den_nz) ?_ ?_
  · rw [Int.natAbs_mul, Nat.pow_add]
    exact Nat.mul_lt_mul'' ha.1 hb.1
  · rw [Nat.pow_add]
    exact Nat.mul_lt_mul'' ha.2 hb.2
theorem Fit.inv {a : Rat} {n : Nat} (ha : Fit n a) : Fit n a⁻¹ := by
  have h2 := ha.2
  have h1 := ha.1
  refine ⟨?_, ?_⟩
  · rw [Rat.num_inv, Int.natAbs_mul]
    have : a.num.sign.natAbs ≤ 1 := by rw [Int.natAbs_sign]; split <;> omega
    have := Nat.mul_le_mul_right (a.den : Int).natAbs this
    simp only [Int.natAbs_natCast, Nat.one_mul] at this ⊢
    omega
  · rw [Rat.den_inv]
    split
    · have := a.den_pos; omega
    · exact h1
theorem Fit.div {a b : Rat} {n m : Nat} (ha : Fit n a) (hb : Fit m b) : Fit (n + m) (a / b) := by
  rw [Rat.div_def]
  exact ha.mul hb.inv
theorem qD_inj {a b : Rat} (h : qD a = qD b) : a = b := by
  simp only [qD, D.tup.injEq, List.cons.injEq, D.int.injEq, and_true] at h
  exact Rat.ext h.1 (by omega)
theorem eqD_q (a b : Rat) : eqD (qD a) (qD b) = decide (a = b) := by
  simp only [qD, eqD, eqDs, Bool.and_true]
  rw [Bool.eq_iff_iff]
  simp only [Bool.and_eq_true, beq_iff_eq, decide_eq_true_eq]
  constructor
  · rintro ⟨h1, h2⟩; exact Rat.ext h1 (by omega)
  · rintro rfl; exact ⟨rfl, rfl⟩
theorem c_eq_q (a b : Rat) : cmpD .Eq (qD a) (qD b) = some (decide (a = b)) := by
  have := eqD_q a b
  simp only [cmpD, eqO, this]
  simp [qD, dep, deps]
theorem c_ne_q (a b : Rat) : cmpD .NotEq (qD a) (qD b) = some (!decide (a = b)) := by
  have := c_eq_q a b
  simp only [cmpD] at this ⊢
  rw [this]
  rfl
theorem g_tupq (F : Fs) (ts : Tgs) (q : Rat) (en : En) (st : Sto) : evG F (.tup ts) (.d (qD q)) en st = evGs F ts [.int q.num, .int q.den] en st := id rfl
theorem idx_q0 (q : Rat) : idxD (qD q) (.int 0) = some (.int q.num) := id rfl
theorem idx_q1 (q : Rat) : idxD (qD q) (.int 1) = some (.int q.den) := id rfl
theorem is_tuple_q (q : Rat) : isiD "tuple" (qD q) = .bl true := is_tuple_tup _
theorem len_q (q : Rat) : lenD [qD q] = some (.int 2) := id rfl
theorem k_ivq (q : Rat) (st : Sto) : kIv (.d (qD q)) st = .ok ⟨[.int q.num, .int q.den], []⟩ st := id rfl
theorem qD_zero : D.tup [.int 0, .int 1] = qD 0 := rfl
theorem qD_one : D.tup [.int 1, .int 1] = qD 1 := rfl
end TW
namespace TW
open PySem PySem.Spec PyProof.Rows L2
/-! is_number -/
def I1 : Ss := (.cons (.ret (.and (.isi (.var 0) "int") (.not (.isi (.var 0) "bool")))) .nil)
/-! divisor_of -/
def I2c1 : E := (.var 1)
def I2b1 : Ss := (.cons (.par [0, 1] (.cons (.var 1) (.cons (.bin .Mod (.var 0) (.var 1)) .nil))) .nil)
def I2 : Ss := (.cons (.while_ I2c1 I2b1) (.cons (.ret (.var 0)) .nil))
/-! is_fraction -/
def I3e1 : E := (.call 1 (.cons (.var 1) .nil) .nil [.inl 0])
def I3 : Ss := (.cons (.iff (.or (.not (.isi (.var 0) "tuple")) (.or (.cmp .NotEq (.blt .len (.cons (.var 0) .nil)) (.con (.int 2))) (.not (.blt .all (.cons (.lc I3e1 (.name 1) (.val (.var 0)) .nil [1]) .nil))))) (.cons (.ret (.con (.bl false))) .nil) .nil) (.cons (.asg (.tup (.cons (.name 2) (.cons (.name 3) .nil))) (.var 0)) (.cons (.ret (.and (.cmp .Gt (.var 3) (.con (.int 0))) (.cmp .Eq (.call 2 (.cons (.blt .abs (.cons (.var 2) .nil)) (.cons (.var 3) .nil)) .nil [.inl 0, .inl 1]) (.con (.int 1))))) .nil)))
/-! lowest -/
def I4 : Ss := (.cons (.asg (.name 2) (.call 2 (.cons (.blt .abs (.cons (.var 0) .nil)) (.cons (.blt .abs (.cons (.var 1) .nil)) .nil)) .nil [.inl 0, .inl 1])) (.cons (.iff (.cmp .Lt (.var 1) (.con (.int 0))) (.cons (.asg (.name 2) (.neg (.var 2))) .nil) .nil) (.cons (.ret (.tup (.cons (.bin .FloorDiv (.var 0) (.var 2)) (.cons (.bin .FloorDiv (.var 1) (.var 2)) .nil)))) .nil)))
/-! fraction -/
def I5 : Ss := (.cons (.iff (.not (.call 1 (.cons (.var 0) .nil) .nil [.inl 0])) (.cons .nope .nil) .nil) (.cons (.iff (.or (.not (.call 1 (.cons (.var 1) .nil) .nil [.inl 0])) (.cmp .Eq (.var 1) (.con (.int 0)))) (.cons .nope .nil) .nil) (.cons (.ret (.call 4 (.cons (.var 0) (.cons (.var 1) .nil)) .nil [.inl 0, .inl 1])) .nil)))
/-! check_both -/
def I6b1 : Ss := (.cons (.iff (.not (.call 3 (.cons (.var 3) .nil) .nil [.inl 0])) (.cons .nope .nil) .nil) .nil)
def I6 : Ss := (.cons (.for_ (.tup (.cons (.name 2) (.cons (.name 3) .nil))) (.enum (.tup (.cons (.var 0) (.cons (.var 1) .nil)))) I6b1) .nil)
/-! plus -/
def I7 : Ss := (.cons (.expr (.call 6 (.cons (.var 0) (.cons (.var 1) .nil)) .nil [.inl 0, .inl 1])) (.cons (.asg (.tup (.cons (.tup (.cons (.name 2) (.cons (.name 3) .nil))) (.cons (.tup (.cons (.name 4) (.cons (.name 5) .nil))) .nil))) (.tup (.cons (.var 0) (.cons (.var 1) .nil)))) (.cons (.ret (.call 4 (.cons (.bin .Add (.bin .Mult (.var 2) (.var 5)) (.bin .Mult (.var 4) (.var 3))) (.cons (.bin .Mult (.var 3) (.var 5)) .nil)) .nil [.inl 0, .inl 1])) .nil)))
/-! minus -/
def I8 : Ss := (.cons (.expr (.call 6 (.cons (.var 0) (.cons (.var 1) .nil)) .nil [.inl 0, .inl 1])) (.cons (.asg (.tup (.cons (.tup (.cons (.name 2) (.cons (.name 3) .nil))) (.cons (.tup (.cons (.name 4) (.cons (.name 5) .nil))) .nil))) (.tup (.cons (.var 0) (.cons (.var 1) .nil)))) (.cons (.ret (.call 4 (.cons (.bin .Sub (.bin .Mult (.var 2) (.var 5)) (.bin .Mult (.var 4) (.var 3))) (.cons (.bin .Mult (.var 3) (.var 5)) .nil)) .nil [.inl 0, .inl 1])) .nil)))
/-! times -/
def I9 : Ss := (.cons (.expr (.call 6 (.cons (.var 0) (.cons (.var 1) .nil)) .nil [.inl 0, .inl 1])) (.cons (.ret (.call 4 (.cons (.bin .Mult (.idx (.var 0) (.con (.int 0))) (.idx (.var 1) (.con (.int 0)))) (.cons (.bin .Mult (.idx (.var 0) (.con (.int 1))) (.idx (.var 1) (.con (.int 1)))) .nil)) .nil [.inl 0, .inl 1])) .nil))
/-! over -/
def I10 : Ss := (.cons (.expr (.call 6 (.cons (.var 0) (.cons (.var 1) .nil)) .nil [.inl 0, .inl 1])) (.cons (.iff (.cmp .Eq (.var 1) (.con (.tup [(.int 0), (.int 1)]))) (.cons .nope .nil) .nil) (.cons (.ret (.call 4 (.cons (.bin .Mult (.idx (.var 0) (.con (.int 0))) (.idx (.var 1) (.con (.int 1)))) (.cons (.bin .Mult (.idx (.var 0) (.con (.int 1))) (.idx (.var 1) (.con (.int 0)))) .nil)) .nil [.inl 0, .inl 1])) .nil)))
/-! below -/
def I11 : Ss := (.cons (.expr (.call 6 (.cons (.var 0) (.cons (.var 1) .nil)) .nil [.inl 0, .inl 1])) (.cons (.ret (.cmp .Lt (.bin .Mult (.idx (.var 0) (.con (.int 0))) (.idx (.var 1) (.con (.int 1)))) (.bin .Mult (.idx (.var 1) (.con (.int 0))) (.idx (.var 0) (.con (.int 1)))))) .nil))
/-! _law_cell -/
def I12b1 : Ss := (.cons (.asg (.name 2) (.bin .Mod (.bin .Add (.bin .Mult (.var 2) (.con (.int 38011))) (.var 3)) (.con (.int 2147483423)))) .nil)
def I12 : Ss := (.cons (.iff (.cmp .Lt (.var 1) (.blt .len (.cons (.var 0) .nil))) (.cons (.ret (.idx (.var 0) (.var 1))) .nil) .nil) (.cons (.asg (.name 2) (.bin .Mod (.bin .Mult (.con (.int 70003)) (.bin .Add (.bin .Add (.bin .Mult (.var 1) (.var 1)) (.bin .Mult (.con (.int 7)) (.var 1))) (.con (.int 5)))) (.con (.int 2147483423)))) (.cons (.for_ (.name 3) (.val (.slc (.var 0) .none (.some (.con (.int 3))))) I12b1) (.cons (.ret (.var 2)) .nil))))
/-! _law_pool -/
def I13 : Ss := (.cons (.asg (.name 1) (.con (.int 0))) (.cons (.iff (.or (.cmp .Lt (.var 0) (.con (.int 0))) (.cmp .GtE (.var 0) (.bin .Pow (.con (.int 10)) (.con (.int 18))))) (.cons (.asg (.name 1) (.blt .abs (.cons (.var 0) .nil))) .nil) .nil) (.cons (.ret (.new (.lst (.cons (.bin .Mod (.var 0) (.con (.int 2147483423))) (.cons (.var 1) (.cons (.con (.int 0)) .nil)))))) .nil)))
/-! _law_take -/
def I14 : Ss := (.cons (.asg (.sub (.var 0) (.con (.int 2))) (.bin .Add (.idx (.var 0) (.con (.int 2))) (.con (.int 1)))) (.cons (.asg (.name 2) (.idx (.var 0) (.con (.int 0)))) (.cons (.asg (.sub (.var 0) (.con (.int 0))) (.bin .Mod (.bin .Add (.bin .Mult (.var 2) (.bin .Add (.bin .Mod (.var 2) (.con (.int 45013))) (.con (.int 32017)))) (.bin .Mult (.con (.int 90023)) (.idx (.var 0) (.con (.int 2))))) (.con (.int 2147483423)))) (.cons (.iff (.cmp .Gt (.idx (.var 0) (.con (.int 1))) (.con (.int 0))) (.cons (.asg (.tup (.cons (.sub (.var 0) (.con (.int 1))) (.cons (.name 3) .nil))) (.blt .divmod (.cons (.idx (.var 0) (.con (.int 1))) (.cons (.var 1) .nil)))) (.cons (.ret (.var 3)) .nil)) .nil) (.cons (.ret (.bin .Mod (.bin .FloorDiv (.idx (.var 0) (.con (.int 0))) (.con (.int 64))) (.var 1))) .nil)))))
/-! _law_low -/
def I15c1 : E := (.cmp .Gt (.var 3) (.con (.int 0)))
def I15b1 : Ss := (.cons (.par [2, 3] (.cons (.var 3) (.cons (.bin .Mod (.var 2) (.var 3)) .nil))) .nil)
def I15 : Ss := (.cons (.par [2, 3] (.cons (.blt .abs (.cons (.var 0) .nil)) (.cons (.var 1) .nil))) (.cons (.while_ I15c1 I15b1) (.cons (.ret (.tup (.cons (.bin .FloorDiv (.var 0) (.var 2)) (.cons (.bin .FloorDiv (.var 1) (.var 2)) .nil)))) .nil)))
def TC : Tbl := fun i => match i with
  | 1 => some (1, I1)
  | 2 => some (2, I2)
  | 3 => some (4, I3)
  | 4 => some (3, I4)
  | 5 => some (2, I5)
  | 6 => some (4, I6)
  | 7 => some (6, I7)
  | 8 => some (6, I8)
  | 9 => some (2, I9)
  | 10 => some (2, I10)
  | 11 => some (2, I11)
  | 12 => some (4, I12)
  | 13 => some (2, I13)
  | 14 => some (4, I14)
  | 15 => some (4, I15)
  | _ => none
end TW
namespace TW
open PySem PySem.Spec PyProof.Rows L2
def isNumD : D → Bool
  | .int _ => true
  | _ => false
def isFrD : D → Bool
  | .tup [.int t, .int b] => decide (0 < b) && decide (Nat.gcd t.natAbs b.natAbs = 1)
  | _ => false
theorem isFrD_q (q : Rat) : isFrD (qD q) = true := by
  have h1 := q.den_pos
  have h2 := q.reduced
  have h3 : Nat.gcd q.num.natAbs q.den = 1 := h2
  simp [qD, isFrD, h1, h3]
theorem isFrD_iff {d : D} (h : isFrD d = true) : ∃ q : Rat, d = qD q := by
  unfold isFrD at h
  split at h
  · rename_i t b
    simp only [Bool.and_eq_true, decide_eq_true_eq] at h
    refine ⟨⟨t, b.toNat, by omega, ?_⟩, ?_⟩
    · have : b.toNat = b.natAbs := by omega
      rw [this]; exact h.2
    · simp only [qD, D.tup.injEq, List.cons.injEq, D.int.injEq, and_true, true_and]
      show b = ((b.toNat : Nat) : Int)
      omega
  · cases h
variable {t : Tbl} (T : Sub TC t) (k : Nat) (st : Sto)
include T
theorem is_number_ok (d : D) : Fn t (k + 1) 1 [.d d] st = .ok (.d (.bl (isNumD d))) st := by
  rw [fn_at T rfl]
  simp only [runF, startE, I1, List.map_cons, List.map_nil, List.length_cons, List.length_nil, List.replicate, List.cons_append, List.nil_append, List.append_nil, Nat.reduceAdd, Nat.reduceSub, Nat.zero_add,
      e_var, e_con, e_bin, k_bin1, k_bin2, e_neg, k_neg, e_not, k_not, e_and, k_and, e_or, k_or, e_cmp, k_cmp1, k_cmp2, e_chain, k_ch1, k_ch2, e_ite, k_ite, e_call, k_call1, k_call2, e_blt, k_blt, e_meth, k_meth1, k_meth2, e_tup, e_lst, e_dct0, e_dcd, e_idx, k_idx1, k_idx2, e_slc, k_slc1, k_slc2, k_slc3, o_none, o_some, k_o, e_new, k_new, e_lc, k_lc, lc_g, es_nil, es_cons, k_es1, k_es2, t_nil, t_cons, k_t, i_val, i_range, i_enum, k_ent, k_enl, enumD, s_par, k_par, setAll, k_body, k_turn, k_ivl, k_ivt, k_ivs,
      g_name, g_tup, g_sub, k_sub1, gs_nil, gs_cons, k_gs, s_asg, k_asg1, k_nx, s_expr, k_expr, s_ret, k_ret, s_iff, k_if, s_for, k_for, s_aug, s_pass, ss_nil, ss_cons, k_ss, bind_ok, bind_exc, bind_stuck, go_ok, go_exc, seq_nx, seq_rt, seq_exc, turn_nx, turn_rt, turn_exc, calm_ok', end_d, end_nx, end_exc, tru_bl, give, give_b, ders, der, arrD, List.getElem?_cons_zero, List.getElem?_cons_succ, List.set_cons_zero, List.set_cons_succ, if_true, if_false, Bool.false_eq_true, Bool.not_true, Bool.not_false, List.take_length,
      e_isi, k_isi, e_tin, k_tinP, k_tinN, e_tget, k_tget, g_star, i_zip, is_int_non, is_int_bl, is_int_int, is_int_str, is_int_tup, is_int_lst, is_int_dct, is_str_non, is_str_bl, is_str_int, is_str_str, is_str_tup, is_str_lst, is_str_dct, is_bool_non, is_bool_bl, is_bool_int, is_bool_str, is_bool_tup, is_bool_lst, is_bool_dct, is_tuple_non, is_tuple_bl, is_tuple_int, is_tuple_str, is_tuple_tup, is_tuple_lst, is_tuple_dct, is_list_non, is_list_bl, is_list_int, is_list_str, is_list_tup, is_list_lst, is_list_dct, is_dict_non, is_dict_bl, is_dict_int, is_dict_str, is_dict_tup, is_dict_lst, is_dict_dct,
      bfD, len_s, len_l, len_t, c_eq_ii, c_ne_ii, c_lt_ii, c_le_ii, c_gt_ii, c_ge_ii, c_is_non, c_isn_non, noneD, Int.cast_ofNat_Int, Int.reduceEq, Int.reduceLT, Int.reduceLE, decide_true, decide_false, kTup, kLst, pures, sizeLine_eq, Nat.reduceLeDiff, g_tupq, idx_q0, idx_q1, is_tuple_q, len_q, k_ivq]
  cases d <;> simp only [List.map_cons, List.map_nil, List.length_cons, List.length_nil, List.replicate, List.cons_append, List.nil_append, List.append_nil, Nat.reduceAdd, Nat.reduceSub, Nat.zero_add,
      e_var, e_con, e_bin, k_bin1, k_bin2, e_neg, k_neg, e_not, k_not, e_and, k_and, e_or, k_or, e_cmp, k_cmp1, k_cmp2, e_chain, k_ch1, k_ch2, e_ite, k_ite, e_call, k_call1, k_call2, e_blt, k_blt, e_meth, k_meth1, k_meth2, e_tup, e_lst, e_dct0, e_dcd, e_idx, k_idx1, k_idx2, e_slc, k_slc1, k_slc2, k_slc3, o_none, o_some, k_o, e_new, k_new, e_lc, k_lc, lc_g, es_nil, es_cons, k_es1, k_es2, t_nil, t_cons, k_t, i_val, i_range, i_enum, k_ent, k_enl, enumD, s_par, k_par, setAll, k_body, k_turn, k_ivl, k_ivt, k_ivs,
      g_name, g_tup, g_sub, k_sub1, gs_nil, gs_cons, k_gs, s_asg, k_asg1, k_nx, s_expr, k_expr, s_ret, k_ret, s_iff, k_if, s_for, k_for, s_aug, s_pass, ss_nil, ss_cons, k_ss, bind_ok, bind_exc, bind_stuck, go_ok, go_exc, seq_nx, seq_rt, seq_exc, turn_nx, turn_rt, turn_exc, calm_ok', end_d, end_nx, end_exc, tru_bl, give, give_b, ders, der, arrD, List.getElem?_cons_zero, List.getElem?_cons_succ, List.set_cons_zero, List.set_cons_succ, if_true, if_false, Bool.false_eq_true, Bool.not_true, Bool.not_false, List.take_length,
      e_isi, k_isi, e_tin, k_tinP, k_tinN, e_tget, k_tget, g_star, i_zip, is_int_non, is_int_bl, is_int_int, is_int_str, is_int_tup, is_int_lst, is_int_dct, is_str_non, is_str_bl, is_str_int, is_str_str, is_str_tup, is_str_lst, is_str_dct, is_bool_non, is_bool_bl, is_bool_int, is_bool_str, is_bool_tup, is_bool_lst, is_bool_dct, is_tuple_non, is_tuple_bl, is_tuple_int, is_tuple_str, is_tuple_tup, is_tuple_lst, is_tuple_dct, is_list_non, is_list_bl, is_list_int, is_list_str, is_list_tup, is_list_lst, is_list_dct, is_dict_non, is_dict_bl, is_dict_int, is_dict_str, is_dict_tup, is_dict_lst, is_dict_dct,
      bfD, len_s, len_l, len_t, c_eq_ii, c_ne_ii, c_lt_ii, c_le_ii, c_gt_ii, c_ge_ii, c_is_non, c_isn_non, noneD, Int.cast_ofNat_Int, Int.reduceEq, Int.reduceLT, Int.reduceLE, decide_true, decide_false, kTup, kLst, pures, sizeLine_eq, Nat.reduceLeDiff, g_tupq, idx_q0, idx_q1, is_tuple_q, len_q, k_ivq, isNumD]
theorem divisor_ok (x y : Nat) (hy : y < 2 ^ 100000000) : Fn t (k + 1) 2 [.d (.int x), .d (.int y)] st = .ok (.d (.int (Nat.gcd x y))) st := by
  rw [fn_at T rfl]
  simp only [runF, startE, I2, List.map_cons, List.map_nil, List.length_cons, List.length_nil, List.replicate, List.cons_append, List.nil_append, List.append_nil, Nat.reduceAdd, Nat.reduceSub, Nat.zero_add,
      e_var, e_con, e_bin, k_bin1, k_bin2, e_neg, k_neg, e_not, k_not, e_and, k_and, e_or, k_or, e_cmp, k_cmp1, k_cmp2, e_chain, k_ch1, k_ch2, e_ite, k_ite, e_call, k_call1, k_call2, e_blt, k_blt, e_meth, k_meth1, k_meth2, e_tup, e_lst, e_dct0, e_dcd, e_idx, k_idx1, k_idx2, e_slc, k_slc1, k_slc2, k_slc3, o_none, o_some, k_o, e_new, k_new, e_lc, k_lc, lc_g, es_nil, es_cons, k_es1, k_es2, t_nil, t_cons, k_t, i_val, i_range, i_enum, k_ent, k_enl, enumD, s_par, k_par, setAll, k_body, k_turn, k_ivl, k_ivt, k_ivs,
      g_name, g_tup, g_sub, k_sub1, gs_nil, gs_cons, k_gs, s_asg, k_asg1, k_nx, s_expr, k_expr, s_ret, k_ret, s_iff, k_if, s_for, k_for, s_aug, s_pass, ss_nil, ss_cons, k_ss, bind_ok, bind_exc, bind_stuck, go_ok, go_exc, seq_nx, seq_rt, seq_exc, turn_nx, turn_rt, turn_exc, calm_ok', end_d, end_nx, end_exc, tru_bl, give, give_b, ders, der, arrD, List.getElem?_cons_zero, List.getElem?_cons_succ, List.set_cons_zero, List.set_cons_succ, if_true, if_false, Bool.false_eq_true, Bool.not_true, Bool.not_false, List.take_length,
      e_isi, k_isi, e_tin, k_tinP, k_tinN, e_tget, k_tget, g_star, i_zip, is_int_non, is_int_bl, is_int_int, is_int_str, is_int_tup, is_int_lst, is_int_dct, is_str_non, is_str_bl, is_str_int, is_str_str, is_str_tup, is_str_lst, is_str_dct, is_bool_non, is_bool_bl, is_bool_int, is_bool_str, is_bool_tup, is_bool_lst, is_bool_dct, is_tuple_non, is_tuple_bl, is_tuple_int, is_tuple_str, is_tuple_tup, is_tuple_lst, is_tuple_dct, is_list_non, is_list_bl, is_list_int, is_list_str, is_list_tup, is_list_lst, is_list_dct, is_dict_non, is_dict_bl, is_dict_int, is_dict_str, is_dict_tup, is_dict_lst, is_dict_dct,
      bfD, len_s, len_l, len_t, c_eq_ii, c_ne_ii, c_lt_ii, c_le_ii, c_gt_ii, c_ge_ii, c_is_non, c_isn_non, noneD, Int.cast_ofNat_Int, Int.reduceEq, Int.reduceLT, Int.reduceLE, decide_true, decide_false, kTup, kLst, pures, sizeLine_eq, Nat.reduceLeDiff, g_tupq, idx_q0, idx_q1, is_tuple_q, len_q, k_ivq]
  rw [s_while]
  have := euclid (c := whC (Fn t k) I2c1) (b := evSs (Fn t k) I2b1) (mk := fun x y => [some (.d (.int x)), some (.d (.int y))]) (st := st)
    (fun x => by simp only [wh_c, I2c1, List.map_cons, List.map_nil, List.length_cons, List.length_nil, List.replicate, List.cons_append, List.nil_append, List.append_nil, Nat.reduceAdd, Nat.reduceSub, Nat.zero_add,
      e_var, e_con, e_bin, k_bin1, k_bin2, e_neg, k_neg, e_not, k_not, e_and, k_and, e_or, k_or, e_cmp, k_cmp1, k_cmp2, e_chain, k_ch1, k_ch2, e_ite, k_ite, e_call, k_call1, k_call2, e_blt, k_blt, e_meth, k_meth1, k_meth2, e_tup, e_lst, e_dct0, e_dcd, e_idx, k_idx1, k_idx2, e_slc, k_slc1, k_slc2, k_slc3, o_none, o_some, k_o, e_new, k_new, e_lc, k_lc, lc_g, es_nil, es_cons, k_es1, k_es2, t_nil, t_cons, k_t, i_val, i_range, i_enum, k_ent, k_enl, enumD, s_par, k_par, setAll, k_body, k_turn, k_ivl, k_ivt, k_ivs,
      g_name, g_tup, g_sub, k_sub1, gs_nil, gs_cons, k_gs, s_asg, k_asg1, k_nx, s_expr, k_expr, s_ret, k_ret, s_iff, k_if, s_for, k_for, s_aug, s_pass, ss_nil, ss_cons, k_ss, bind_ok, bind_exc, bind_stuck, go_ok, go_exc, seq_nx, seq_rt, seq_exc, turn_nx, turn_rt, turn_exc, calm_ok', end_d, end_nx, end_exc, tru_bl, give, give_b, ders, der, arrD, List.getElem?_cons_zero, List.getElem?_cons_succ, List.set_cons_zero, List.set_cons_succ, if_true, if_false, Bool.false_eq_true, Bool.not_true, Bool.not_false, List.take_length,
      e_isi, k_isi, e_tin, k_tinP, k_tinN, e_tget, k_tget, g_star, i_zip, is_int_non, is_int_bl, is_int_int, is_int_str, is_int_tup, is_int_lst, is_int_dct, is_str_non, is_str_bl, is_str_int, is_str_str, is_str_tup, is_str_lst, is_str_dct, is_bool_non, is_bool_bl, is_bool_int, is_bool_str, is_bool_tup, is_bool_lst, is_bool_dct, is_tuple_non, is_tuple_bl, is_tuple_int, is_tuple_str, is_tuple_tup, is_tuple_lst, is_tuple_dct, is_list_non, is_list_bl, is_list_int, is_list_str, is_list_tup, is_list_lst, is_list_dct, is_dict_non, is_dict_bl, is_dict_int, is_dict_str, is_dict_tup, is_dict_lst, is_dict_dct,
      bfD, len_s, len_l, len_t, c_eq_ii, c_ne_ii, c_lt_ii, c_le_ii, c_gt_ii, c_ge_ii, c_is_non, c_isn_non, noneD, Int.cast_ofNat_Int, Int.reduceEq, Int.reduceLT, Int.reduceLE, decide_true, decide_false, kTup, kLst, pures, sizeLine_eq, Nat.reduceLeDiff, g_tupq, idx_q0, idx_q1, is_tuple_q, len_q, k_ivq, truV, truD]; rfl) (fun x y h => by
      have : ((y : Int) != 0) = true := by simp; omega
      simp only [wh_c, I2c1, List.map_cons, List.map_nil, List.length_cons, List.length_nil, List.replicate, List.cons_append, List.nil_append, List.append_nil, Nat.reduceAdd, Nat.reduceSub, Nat.zero_add,
      e_var, e_con, e_bin, k_bin1, k_bin2, e_neg, k_neg, e_not, k_not, e_and, k_and, e_or, k_or, e_cmp, k_cmp1, k_cmp2, e_chain, k_ch1, k_ch2, e_ite, k_ite, e_call, k_call1, k_call2, e_blt, k_blt, e_meth, k_meth1, k_meth2, e_tup, e_lst, e_dct0, e_dcd, e_idx, k_idx1, k_idx2, e_slc, k_slc1, k_slc2, k_slc3, o_none, o_some, k_o, e_new, k_new, e_lc, k_lc, lc_g, es_nil, es_cons, k_es1, k_es2, t_nil, t_cons, k_t, i_val, i_range, i_enum, k_ent, k_enl, enumD, s_par, k_par, setAll, k_body, k_turn, k_ivl, k_ivt, k_ivs,
      g_name, g_tup, g_sub, k_sub1, gs_nil, gs_cons, k_gs, s_asg, k_asg1, k_nx, s_expr, k_expr, s_ret, k_ret, s_iff, k_if, s_for, k_for, s_aug, s_pass, ss_nil, ss_cons, k_ss, bind_ok, bind_exc, bind_stuck, go_ok, go_exc, seq_nx, seq_rt, seq_exc, turn_nx, turn_rt, turn_exc, calm_ok', end_d, end_nx, end_exc, tru_bl, give, give_b, ders, der, arrD, List.getElem?_cons_zero, List.getElem?_cons_succ, List.set_cons_zero, List.set_cons_succ, if_true, if_false, Bool.false_eq_true, Bool.not_true, Bool.not_false, List.take_length,
      e_isi, k_isi, e_tin, k_tinP, k_tinN, e_tget, k_tget, g_star, i_zip, is_int_non, is_int_bl, is_int_int, is_int_str, is_int_tup, is_int_lst, is_int_dct, is_str_non, is_str_bl, is_str_int, is_str_str, is_str_tup, is_str_lst, is_str_dct, is_bool_non, is_bool_bl, is_bool_int, is_bool_str, is_bool_tup, is_bool_lst, is_bool_dct, is_tuple_non, is_tuple_bl, is_tuple_int, is_tuple_str, is_tuple_tup, is_tuple_lst, is_tuple_dct, is_list_non, is_list_bl, is_list_int, is_list_str, is_list_tup, is_list_lst, is_list_dct, is_dict_non, is_dict_bl, is_dict_int, is_dict_str, is_dict_tup, is_dict_lst, is_dict_dct,
      bfD, len_s, len_l, len_t, c_eq_ii, c_ne_ii, c_lt_ii, c_le_ii, c_gt_ii, c_ge_ii, c_is_non, c_isn_non, noneD, Int.cast_ofNat_Int, Int.reduceEq, Int.reduceLT, Int.reduceLE, decide_true, decide_false, kTup, kLst, pures, sizeLine_eq, Nat.reduceLeDiff, g_tupq, idx_q0, idx_q1, is_tuple_q, len_q, k_ivq, truV, truD, this]) (fun x y h => by simp only [I2b1, List.map_cons, List.map_nil, List.length_cons, List.length_nil, List.replicate, List.cons_append, List.nil_append, List.append_nil, Nat.reduceAdd, Nat.reduceSub, Nat.zero_add,
      e_var, e_con, e_bin, k_bin1, k_bin2, e_neg, k_neg, e_not, k_not, e_and, k_and, e_or, k_or, e_cmp, k_cmp1, k_cmp2, e_chain, k_ch1, k_ch2, e_ite, k_ite, e_call, k_call1, k_call2, e_blt, k_blt, e_meth, k_meth1, k_meth2, e_tup, e_lst, e_dct0, e_dcd, e_idx, k_idx1, k_idx2, e_slc, k_slc1, k_slc2, k_slc3, o_none, o_some, k_o, e_new, k_new, e_lc, k_lc, lc_g, es_nil, es_cons, k_es1, k_es2, t_nil, t_cons, k_t, i_val, i_range, i_enum, k_ent, k_enl, enumD, s_par, k_par, setAll, k_body, k_turn, k_ivl, k_ivt, k_ivs,
      g_name, g_tup, g_sub, k_sub1, gs_nil, gs_cons, k_gs, s_asg, k_asg1, k_nx, s_expr, k_expr, s_ret, k_ret, s_iff, k_if, s_for, k_for, s_aug, s_pass, ss_nil, ss_cons, k_ss, bind_ok, bind_exc, bind_stuck, go_ok, go_exc, seq_nx, seq_rt, seq_exc, turn_nx, turn_rt, turn_exc, calm_ok', end_d, end_nx, end_exc, tru_bl, give, give_b, ders, der, arrD, List.getElem?_cons_zero, List.getElem?_cons_succ, List.set_cons_zero, List.set_cons_succ, if_true, if_false, Bool.false_eq_true, Bool.not_true, Bool.not_false, List.take_length,
      e_isi, k_isi, e_tin, k_tinP, k_tinN, e_tget, k_tget, g_star, i_zip, is_int_non, is_int_bl, is_int_int, is_int_str, is_int_tup, is_int_lst, is_int_dct, is_str_non, is_str_bl, is_str_int, is_str_str, is_str_tup, is_str_lst, is_str_dct, is_bool_non, is_bool_bl, is_bool_int, is_bool_str, is_bool_tup, is_bool_lst, is_bool_dct, is_tuple_non, is_tuple_bl, is_tuple_int, is_tuple_str, is_tuple_tup, is_tuple_lst, is_tuple_dct, is_list_non, is_list_bl, is_list_int, is_list_str, is_list_tup, is_list_lst, is_list_dct, is_dict_non, is_dict_bl, is_dict_int, is_dict_str, is_dict_tup, is_dict_lst, is_dict_dct,
      bfD, len_s, len_l, len_t, c_eq_ii, c_ne_ii, c_lt_ii, c_le_ii, c_gt_ii, c_ge_ii, c_is_non, c_isn_non, noneD, Int.cast_ofNat_Int, Int.reduceEq, Int.reduceLT, Int.reduceLE, decide_true, decide_false, kTup, kLst, pures, sizeLine_eq, Nat.reduceLeDiff, g_tupq, idx_q0, idx_q1, is_tuple_q, len_q, k_ivq, modN h]) 100000000 x y WF hy (by unfold WF; omega)
  rw [this]
  simp only [List.map_cons, List.map_nil, List.length_cons, List.length_nil, List.replicate, List.cons_append, List.nil_append, List.append_nil, Nat.reduceAdd, Nat.reduceSub, Nat.zero_add,
      e_var, e_con, e_bin, k_bin1, k_bin2, e_neg, k_neg, e_not, k_not, e_and, k_and, e_or, k_or, e_cmp, k_cmp1, k_cmp2, e_chain, k_ch1, k_ch2, e_ite, k_ite, e_call, k_call1, k_call2, e_blt, k_blt, e_meth, k_meth1, k_meth2, e_tup, e_lst, e_dct0, e_dcd, e_idx, k_idx1, k_idx2, e_slc, k_slc1, k_slc2, k_slc3, o_none, o_some, k_o, e_new, k_new, e_lc, k_lc, lc_g, es_nil, es_cons, k_es1, k_es2, t_nil, t_cons, k_t, i_val, i_range, i_enum, k_ent, k_enl, enumD, s_par, k_par, setAll, k_body, k_turn, k_ivl, k_ivt, k_ivs,
      g_name, g_tup, g_sub, k_sub1, gs_nil, gs_cons, k_gs, s_asg, k_asg1, k_nx, s_expr, k_expr, s_ret, k_ret, s_iff, k_if, s_for, k_for, s_aug, s_pass, ss_nil, ss_cons, k_ss, bind_ok, bind_exc, bind_stuck, go_ok, go_exc, seq_nx, seq_rt, seq_exc, turn_nx, turn_rt, turn_exc, calm_ok', end_d, end_nx, end_exc, tru_bl, give, give_b, ders, der, arrD, List.getElem?_cons_zero, List.getElem?_cons_succ, List.set_cons_zero, List.set_cons_succ, if_true, if_false, Bool.false_eq_true, Bool.not_true, Bool.not_false, List.take_length,
      e_isi, k_isi, e_tin, k_tinP, k_tinN, e_tget, k_tget, g_star, i_zip, is_int_non, is_int_bl, is_int_int, is_int_str, is_int_tup, is_int_lst, is_int_dct, is_str_non, is_str_bl, is_str_int, is_str_str, is_str_tup, is_str_lst, is_str_dct, is_bool_non, is_bool_bl, is_bool_int, is_bool_str, is_bool_tup, is_bool_lst, is_bool_dct, is_tuple_non, is_tuple_bl, is_tuple_int, is_tuple_str, is_tuple_tup, is_tuple_lst, is_tuple_dct, is_list_non, is_list_bl, is_list_int, is_list_str, is_list_tup, is_list_lst, is_list_dct, is_dict_non, is_dict_bl, is_dict_int, is_dict_str, is_dict_tup, is_dict_lst, is_dict_dct,
      bfD, len_s, len_l, len_t, c_eq_ii, c_ne_ii, c_lt_ii, c_le_ii, c_gt_ii, c_ge_ii, c_is_non, c_isn_non, noneD, Int.cast_ofNat_Int, Int.reduceEq, Int.reduceLT, Int.reduceLE, decide_true, decide_false, kTup, kLst, pures, sizeLine_eq, Nat.reduceLeDiff, g_tupq, idx_q0, idx_q1, is_tuple_q, len_q, k_ivq]
omit T in
theorem szB {n : Nat} {b : Nat} (h : b < 2 ^ n) (hn : n < 9000) : b < 2 ^ 100000000 := Nat.lt_of_lt_of_le h (Nat.pow_le_pow_right (by omega) (by omega))
theorem lowest_ok (top bottom : Int) {n : Nat} (hb : bottom ≠ 0) (hn : bottom.natAbs < 2 ^ n) (h9 : n < 9000) : Fn t (k + 2) 4 [.d (.int top), .d (.int bottom)] st = .ok (.d (qD (Rat.divInt top bottom))) st := by
  rw [fn_at T rfl]
  have hg0 : 0 < Nat.gcd top.natAbs bottom.natAbs := Nat.gcd_pos_of_pos_right _ (by omega)
  have hg1 : Nat.gcd top.natAbs bottom.natAbs ≤ bottom.natAbs := Nat.gcd_le_right _ (by omega)
  have hd1 : ((Nat.gcd top.natAbs bottom.natAbs : Nat) : Int) ∣ top := Int.ofNat_dvd_left.mpr (Nat.gcd_dvd_left _ _)
  have hd2 : ((Nat.gcd top.natAbs bottom.natAbs : Nat) : Int) ∣ bottom := Int.ofNat_dvd_left.mpr (Nat.gcd_dvd_right _ _)
  have hl : (Nat.gcd top.natAbs bottom.natAbs).log2 < 9000 := Nat.lt_of_le_of_lt (log2_le (Nat.lt_of_le_of_lt hg1 hn)) h9
  have e1 := Rat.num_divInt top bottom
  have e2 := Rat.den_divInt top bottom
  have e3 : bottom.gcd top = Nat.gcd top.natAbs bottom.natAbs := by rw [Int.gcd_comm]; rfl
  rw [e3] at e1 e2
  simp only [runF, startE, I4, List.map_cons, List.map_nil, List.length_cons, List.length_nil, List.replicate, List.cons_append, List.nil_append, List.append_nil, Nat.reduceAdd, Nat.reduceSub, Nat.zero_add,
      e_var, e_con, e_bin, k_bin1, k_bin2, e_neg, k_neg, e_not, k_not, e_and, k_and, e_or, k_or, e_cmp, k_cmp1, k_cmp2, e_chain, k_ch1, k_ch2, e_ite, k_ite, e_call, k_call1, k_call2, e_blt, k_blt, e_meth, k_meth1, k_meth2, e_tup, e_lst, e_dct0, e_dcd, e_idx, k_idx1, k_idx2, e_slc, k_slc1, k_slc2, k_slc3, o_none, o_some, k_o, e_new, k_new, e_lc, k_lc, lc_g, es_nil, es_cons, k_es1, k_es2, t_nil, t_cons, k_t, i_val, i_range, i_enum, k_ent, k_enl, enumD, s_par, k_par, setAll, k_body, k_turn, k_ivl, k_ivt, k_ivs,
      g_name, g_tup, g_sub, k_sub1, gs_nil, gs_cons, k_gs, s_asg, k_asg1, k_nx, s_expr, k_expr, s_ret, k_ret, s_iff, k_if, s_for, k_for, s_aug, s_pass, ss_nil, ss_cons, k_ss, bind_ok, bind_exc, bind_stuck, go_ok, go_exc, seq_nx, seq_rt, seq_exc, turn_nx, turn_rt, turn_exc, calm_ok', end_d, end_nx, end_exc, tru_bl, give, give_b, ders, der, arrD, List.getElem?_cons_zero, List.getElem?_cons_succ, List.set_cons_zero, List.set_cons_succ, if_true, if_false, Bool.false_eq_true, Bool.not_true, Bool.not_false, List.take_length,
      e_isi, k_isi, e_tin, k_tinP, k_tinN, e_tget, k_tget, g_star, i_zip, is_int_non, is_int_bl, is_int_int, is_int_str, is_int_tup, is_int_lst, is_int_dct, is_str_non, is_str_bl, is_str_int, is_str_str, is_str_tup, is_str_lst, is_str_dct, is_bool_non, is_bool_bl, is_bool_int, is_bool_str, is_bool_tup, is_bool_lst, is_bool_dct, is_tuple_non, is_tuple_bl, is_tuple_int, is_tuple_str, is_tuple_tup, is_tuple_lst, is_tuple_dct, is_list_non, is_list_bl, is_list_int, is_list_str, is_list_tup, is_list_lst, is_list_dct, is_dict_non, is_dict_bl, is_dict_int, is_dict_str, is_dict_tup, is_dict_lst, is_dict_dct,
      bfD, len_s, len_l, len_t, c_eq_ii, c_ne_ii, c_lt_ii, c_le_ii, c_gt_ii, c_ge_ii, c_is_non, c_isn_non, noneD, Int.cast_ofNat_Int, Int.reduceEq, Int.reduceLT, Int.reduceLE, decide_true, decide_false, kTup, kLst, pures, sizeLine_eq, Nat.reduceLeDiff, g_tupq, idx_q0, idx_q1, is_tuple_q, len_q, k_ivq, absI, divisor_ok T k st _ _ (szB hn h9)]
  generalize Nat.gcd top.natAbs bottom.natAbs = g at *
  by_cases hlt : bottom < 0
  · have f1 : binD .FloorDiv (.int top) (.int (-(g : Int))) = some (.int (Rat.divInt top bottom).num) := by
      simp only [binD]
      rw [if_pos ⟨by omega, by rw [Int.natAbs_neg, Int.natAbs_natCast]; exact hl⟩, e1, Int.fdiv_eq_ediv_of_dvd (Int.neg_dvd.mpr hd1), Int.ediv_neg, Int.sign_eq_neg_one_of_neg hlt, Int.neg_one_mul, Int.neg_ediv_of_dvd hd1]
    have f2 : binD .FloorDiv (.int bottom) (.int (-(g : Int))) = some (.int (Rat.divInt top bottom).den) := by
      simp only [binD]
      rw [if_pos ⟨by omega, by rw [Int.natAbs_neg, Int.natAbs_natCast]; exact hl⟩, e2, if_neg hb, Int.fdiv_eq_ediv_of_dvd (Int.neg_dvd.mpr hd2), Int.ediv_neg, Int.natCast_ediv, show ((bottom.natAbs : Nat) : Int) = -bottom by omega, Int.neg_ediv_of_dvd hd2]
    simp only [hlt, List.map_cons, List.map_nil, List.length_cons, List.length_nil, List.replicate, List.cons_append, List.nil_append, List.append_nil, Nat.reduceAdd, Nat.reduceSub, Nat.zero_add,
      e_var, e_con, e_bin, k_bin1, k_bin2, e_neg, k_neg, e_not, k_not, e_and, k_and, e_or, k_or, e_cmp, k_cmp1, k_cmp2, e_chain, k_ch1, k_ch2, e_ite, k_ite, e_call, k_call1, k_call2, e_blt, k_blt, e_meth, k_meth1, k_meth2, e_tup, e_lst, e_dct0, e_dcd, e_idx, k_idx1, k_idx2, e_slc, k_slc1, k_slc2, k_slc3, o_none, o_some, k_o, e_new, k_new, e_lc, k_lc, lc_g, es_nil, es_cons, k_es1, k_es2, t_nil, t_cons, k_t, i_val, i_range, i_enum, k_ent, k_enl, enumD, s_par, k_par, setAll, k_body, k_turn, k_ivl, k_ivt, k_ivs,
      g_name, g_tup, g_sub, k_sub1, gs_nil, gs_cons, k_gs, s_asg, k_asg1, k_nx, s_expr, k_expr, s_ret, k_ret, s_iff, k_if, s_for, k_for, s_aug, s_pass, ss_nil, ss_cons, k_ss, bind_ok, bind_exc, bind_stuck, go_ok, go_exc, seq_nx, seq_rt, seq_exc, turn_nx, turn_rt, turn_exc, calm_ok', end_d, end_nx, end_exc, tru_bl, give, give_b, ders, der, arrD, List.getElem?_cons_zero, List.getElem?_cons_succ, List.set_cons_zero, List.set_cons_succ, if_true, if_false, Bool.false_eq_true, Bool.not_true, Bool.not_false, List.take_length,
      e_isi, k_isi, e_tin, k_tinP, k_tinN, e_tget, k_tget, g_star, i_zip, is_int_non, is_int_bl, is_int_int, is_int_str, is_int_tup, is_int_lst, is_int_dct, is_str_non, is_str_bl, is_str_int, is_str_str, is_str_tup, is_str_lst, is_str_dct, is_bool_non, is_bool_bl, is_bool_int, is_bool_str, is_bool_tup, is_bool_lst, is_bool_dct, is_tuple_non, is_tuple_bl, is_tuple_int, is_tuple_str, is_tuple_tup, is_tuple_lst, is_tuple_dct, is_list_non, is_list_bl, is_list_int, is_list_str, is_list_tup, is_list_lst, is_list_dct, is_dict_non, is_dict_bl, is_dict_int, is_dict_str, is_dict_tup, is_dict_lst, is_dict_dct,
      bfD, len_s, len_l, len_t, c_eq_ii, c_ne_ii, c_lt_ii, c_le_ii, c_gt_ii, c_ge_ii, c_is_non, c_isn_non, noneD, Int.cast_ofNat_Int, Int.reduceEq, Int.reduceLT, Int.reduceLE, decide_true, decide_false, kTup, kLst, pures, sizeLine_eq, Nat.reduceLeDiff, g_tupq, idx_q0, idx_q1, is_tuple_q, len_q, k_ivq, f1, f2, qD]
  · have f1 : binD .FloorDiv (.int top) (.int (g : Int)) = some (.int (Rat.divInt top bottom).num) := by
      simp only [binD]
      rw [if_pos ⟨by omega, by rw [Int.natAbs_natCast]; exact hl⟩, e1, Int.fdiv_eq_ediv_of_dvd hd1, Int.sign_eq_one_of_pos (by omega), Int.one_mul]
    have f2 : binD .FloorDiv (.int bottom) (.int (g : Int)) = some (.int (Rat.divInt top bottom).den) := by
      simp only [binD]
      rw [if_pos ⟨by omega, by rw [Int.natAbs_natCast]; exact hl⟩, e2, if_neg hb, Int.fdiv_eq_ediv_of_dvd hd2, Int.natCast_ediv, show ((bottom.natAbs : Nat) : Int) = bottom by omega]
    simp only [hlt, List.map_cons, List.map_nil, List.length_cons, List.length_nil, List.replicate, List.cons_append, List.nil_append, List.append_nil, Nat.reduceAdd, Nat.reduceSub, Nat.zero_add,
      e_var, e_con, e_bin, k_bin1, k_bin2, e_neg, k_neg, e_not, k_not, e_and, k_and, e_or, k_or, e_cmp, k_cmp1, k_cmp2, e_chain, k_ch1, k_ch2, e_ite, k_ite, e_call, k_call1, k_call2, e_blt, k_blt, e_meth, k_meth1, k_meth2, e_tup, e_lst, e_dct0, e_dcd, e_idx, k_idx1, k_idx2, e_slc, k_slc1, k_slc2, k_slc3, o_none, o_some, k_o, e_new, k_new, e_lc, k_lc, lc_g, es_nil, es_cons, k_es1, k_es2, t_nil, t_cons, k_t, i_val, i_range, i_enum, k_ent, k_enl, enumD, s_par, k_par, setAll, k_body, k_turn, k_ivl, k_ivt, k_ivs,
      g_name, g_tup, g_sub, k_sub1, gs_nil, gs_cons, k_gs, s_asg, k_asg1, k_nx, s_expr, k_expr, s_ret, k_ret, s_iff, k_if, s_for, k_for, s_aug, s_pass, ss_nil, ss_cons, k_ss, bind_ok, bind_exc, bind_stuck, go_ok, go_exc, seq_nx, seq_rt, seq_exc, turn_nx, turn_rt, turn_exc, calm_ok', end_d, end_nx, end_exc, tru_bl, give, give_b, ders, der, arrD, List.getElem?_cons_zero, List.getElem?_cons_succ, List.set_cons_zero, List.set_cons_succ, if_true, if_false, Bool.false_eq_true, Bool.not_true, Bool.not_false, List.take_length,
      e_isi, k_isi, e_tin, k_tinP, k_tinN, e_tget, k_tget, g_star, i_zip, is_int_non, is_int_bl, is_int_int, is_int_str, is_int_tup, is_int_lst, is_int_dct, is_str_non, is_str_bl, is_str_int, is_str_str, is_str_tup, is_str_lst, is_str_dct, is_bool_non, is_bool_bl, is_bool_int, is_bool_str, is_bool_tup, is_bool_lst, is_bool_dct, is_tuple_non, is_tuple_bl, is_tuple_int, is_tuple_str, is_tuple_tup, is_tuple_lst, is_tuple_dct, is_list_non, is_list_bl, is_list_int, is_list_str, is_list_tup, is_list_lst, is_list_dct, is_dict_non, is_dict_bl, is_dict_int, is_dict_str, is_dict_tup, is_dict_lst, is_dict_dct,
      bfD, len_s, len_l, len_t, c_eq_ii, c_ne_ii, c_lt_ii, c_le_ii, c_gt_ii, c_ge_ii, c_is_non, c_isn_non, noneD, Int.cast_ofNat_Int, Int.reduceEq, Int.reduceLT, Int.reduceLE, decide_true, decide_false, kTup, kLst, pures, sizeLine_eq, Nat.reduceLeDiff, g_tupq, idx_q0, idx_q1, is_tuple_q, len_q, k_ivq, f1, f2, qD]
theorem fraction_ok (top bottom : Int) {n : Nat} (hb : bottom ≠ 0) (hn : bottom.natAbs < 2 ^ n) (h9 : n < 9000) : Fn t (k + 3) 5 [.d (.int top), .d (.int bottom)] st = .ok (.d (qD (Rat.divInt top bottom))) st := by
  rw [fn_at T rfl]
  simp only [runF, startE, I5, List.map_cons, List.map_nil, List.length_cons, List.length_nil, List.replicate, List.cons_append, List.nil_append, List.append_nil, Nat.reduceAdd, Nat.reduceSub, Nat.zero_add,
      e_var, e_con, e_bin, k_bin1, k_bin2, e_neg, k_neg, e_not, k_not, e_and, k_and, e_or, k_or, e_cmp, k_cmp1, k_cmp2, e_chain, k_ch1, k_ch2, e_ite, k_ite, e_call, k_call1, k_call2, e_blt, k_blt, e_meth, k_meth1, k_meth2, e_tup, e_lst, e_dct0, e_dcd, e_idx, k_idx1, k_idx2, e_slc, k_slc1, k_slc2, k_slc3, o_none, o_some, k_o, e_new, k_new, e_lc, k_lc, lc_g, es_nil, es_cons, k_es1, k_es2, t_nil, t_cons, k_t, i_val, i_range, i_enum, k_ent, k_enl, enumD, s_par, k_par, setAll, k_body, k_turn, k_ivl, k_ivt, k_ivs,
      g_name, g_tup, g_sub, k_sub1, gs_nil, gs_cons, k_gs, s_asg, k_asg1, k_nx, s_expr, k_expr, s_ret, k_ret, s_iff, k_if, s_for, k_for, s_aug, s_pass, ss_nil, ss_cons, k_ss, bind_ok, bind_exc, bind_stuck, go_ok, go_exc, seq_nx, seq_rt, seq_exc, turn_nx, turn_rt, turn_exc, calm_ok', end_d, end_nx, end_exc, tru_bl, give, give_b, ders, der, arrD, List.getElem?_cons_zero, List.getElem?_cons_succ, List.set_cons_zero, List.set_cons_succ, if_true, if_false, Bool.false_eq_true, Bool.not_true, Bool.not_false, List.take_length,
      e_isi, k_isi, e_tin, k_tinP, k_tinN, e_tget, k_tget, g_star, i_zip, is_int_non, is_int_bl, is_int_int, is_int_str, is_int_tup, is_int_lst, is_int_dct, is_str_non, is_str_bl, is_str_int, is_str_str, is_str_tup, is_str_lst, is_str_dct, is_bool_non, is_bool_bl, is_bool_int, is_bool_str, is_bool_tup, is_bool_lst, is_bool_dct, is_tuple_non, is_tuple_bl, is_tuple_int, is_tuple_str, is_tuple_tup, is_tuple_lst, is_tuple_dct, is_list_non, is_list_bl, is_list_int, is_list_str, is_list_tup, is_list_lst, is_list_dct, is_dict_non, is_dict_bl, is_dict_int, is_dict_str, is_dict_tup, is_dict_lst, is_dict_dct,
      bfD, len_s, len_l, len_t, c_eq_ii, c_ne_ii, c_lt_ii, c_le_ii, c_gt_ii, c_ge_ii, c_is_non, c_isn_non, noneD, Int.cast_ofNat_Int, Int.reduceEq, Int.reduceLT, Int.reduceLE, decide_true, decide_false, kTup, kLst, pures, sizeLine_eq, Nat.reduceLeDiff, g_tupq, idx_q0, idx_q1, is_tuple_q, len_q, k_ivq, is_number_ok T (k + 1), isNumD, hb, lowest_ok T k st top bottom hb hn h9]
omit T in
theorem Fit.den_ne {a : Rat} : (a.den : Int) ≠ 0 := by have := a.den_nz; omega
theorem is_fraction_ok (d : D) (h : ∀ t b, d = .tup [.int t, .int b] → b.natAbs < 2 ^ 100000000) : Fn t (k + 2) 3 [.d d] st = .ok (.d (.bl (isFrD d))) st := by
  rw [fn_at T rfl]
  cases d with
  | tup xs =>
    have hl : ∀ (en : En) (hi : 1 < en.length), lcLoop [] (lcG (Fn t (k + 1)) (.name 1)) (evT (Fn t (k + 1)) .nil) (evE (Fn t (k + 1)) I3e1) en xs [] st = .ok (.d (.lst (xs.map fun d => .bl (isNumD d)))) st := by
      intro en hi
      have := lc_enc (e := id) (f := fun d => .bl (isNumD d)) (g := lcG (Fn t (k + 1)) (.name 1)) (t := evT (Fn t (k + 1)) .nil) (el := evE (Fn t (k + 1)) I3e1) (en := en) (st := st) xs [] fun x hx => ⟨en.set 1 (some (.d x)), by simp only [lc_g, g_name, id], rfl, by simp only [I3e1, List.map_cons, List.map_nil, List.length_cons, List.length_nil, List.replicate, List.cons_append, List.nil_append, List.append_nil, Nat.reduceAdd, Nat.reduceSub, Nat.zero_add,
      e_var, e_con, e_bin, k_bin1, k_bin2, e_neg, k_neg, e_not, k_not, e_and, k_and, e_or, k_or, e_cmp, k_cmp1, k_cmp2, e_chain, k_ch1, k_ch2, e_ite, k_ite, e_call, k_call1, k_call2, e_blt, k_blt, e_meth, k_meth1, k_meth2, e_tup, e_lst, e_dct0, e_dcd, e_idx, k_idx1, k_idx2, e_slc, k_slc1, k_slc2, k_slc3, o_none, o_some, k_o, e_new, k_new, e_lc, k_lc, lc_g, es_nil, es_cons, k_es1, k_es2, t_nil, t_cons, k_t, i_val, i_range, i_enum, k_ent, k_enl, enumD, s_par, k_par, setAll, k_body, k_turn, k_ivl, k_ivt, k_ivs,
      g_name, g_tup, g_sub, k_sub1, gs_nil, gs_cons, k_gs, s_asg, k_asg1, k_nx, s_expr, k_expr, s_ret, k_ret, s_iff, k_if, s_for, k_for, s_aug, s_pass, ss_nil, ss_cons, k_ss, bind_ok, bind_exc, bind_stuck, go_ok, go_exc, seq_nx, seq_rt, seq_exc, turn_nx, turn_rt, turn_exc, calm_ok', end_d, end_nx, end_exc, tru_bl, give, give_b, ders, der, arrD, List.getElem?_cons_zero, List.getElem?_cons_succ, List.set_cons_zero, List.set_cons_succ, if_true, if_false, Bool.false_eq_true, Bool.not_true, Bool.not_false, List.take_length,
      e_isi, k_isi, e_tin, k_tinP, k_tinN, e_tget, k_tget, g_star, i_zip, is_int_non, is_int_bl, is_int_int, is_int_str, is_int_tup, is_int_lst, is_int_dct, is_str_non, is_str_bl, is_str_int, is_str_str, is_str_tup, is_str_lst, is_str_dct, is_bool_non, is_bool_bl, is_bool_int, is_bool_str, is_bool_tup, is_bool_lst, is_bool_dct, is_tuple_non, is_tuple_bl, is_tuple_int, is_tuple_str, is_tuple_tup, is_tuple_lst, is_tuple_dct, is_list_non, is_list_bl, is_list_int, is_list_str, is_list_tup, is_list_lst, is_list_dct, is_dict_non, is_dict_bl, is_dict_int, is_dict_str, is_dict_tup, is_dict_lst, is_dict_dct,
      bfD, len_s, len_l, len_t, c_eq_ii, c_ne_ii, c_lt_ii, c_le_ii, c_gt_ii, c_ge_ii, c_is_non, c_isn_non, noneD, Int.cast_ofNat_Int, Int.reduceEq, Int.reduceLT, Int.reduceLE, decide_true, decide_false, kTup, kLst, pures, sizeLine_eq, Nat.reduceLeDiff, g_tupq, idx_q0, idx_q1, is_tuple_q, len_q, k_ivq, List.getElem?_set_self hi, is_number_ok T k st x]⟩
      rw [List.map_id] at this
      exact this
    simp only [runF, startE, I3, List.map_cons, List.map_nil, List.length_cons, List.length_nil, List.replicate, List.cons_append, List.nil_append, List.append_nil, Nat.reduceAdd, Nat.reduceSub, Nat.zero_add,
      e_var, e_con, e_bin, k_bin1, k_bin2, e_neg, k_neg, e_not, k_not, e_and, k_and, e_or, k_or, e_cmp, k_cmp1, k_cmp2, e_chain, k_ch1, k_ch2, e_ite, k_ite, e_call, k_call1, k_call2, e_blt, k_blt, e_meth, k_meth1, k_meth2, e_tup, e_lst, e_dct0, e_dcd, e_idx, k_idx1, k_idx2, e_slc, k_slc1, k_slc2, k_slc3, o_none, o_some, k_o, e_new, k_new, e_lc, k_lc, lc_g, es_nil, es_cons, k_es1, k_es2, t_nil, t_cons, k_t, i_val, i_range, i_enum, k_ent, k_enl, enumD, s_par, k_par, setAll, k_body, k_turn, k_ivl, k_ivt, k_ivs,
      g_name, g_tup, g_sub, k_sub1, gs_nil, gs_cons, k_gs, s_asg, k_asg1, k_nx, s_expr, k_expr, s_ret, k_ret, s_iff, k_if, s_for, k_for, s_aug, s_pass, ss_nil, ss_cons, k_ss, bind_ok, bind_exc, bind_stuck, go_ok, go_exc, seq_nx, seq_rt, seq_exc, turn_nx, turn_rt, turn_exc, calm_ok', end_d, end_nx, end_exc, tru_bl, give, give_b, ders, der, arrD, List.getElem?_cons_zero, List.getElem?_cons_succ, List.set_cons_zero, List.set_cons_succ, if_true, if_false, Bool.false_eq_true, Bool.not_true, Bool.not_false, List.take_length,
      e_isi, k_isi, e_tin, k_tinP, k_tinN, e_tget, k_tget, g_star, i_zip, is_int_non, is_int_bl, is_int_int, is_int_str, is_int_tup, is_int_lst, is_int_dct, is_str_non, is_str_bl, is_str_int, is_str_str, is_str_tup, is_str_lst, is_str_dct, is_bool_non, is_bool_bl, is_bool_int, is_bool_str, is_bool_tup, is_bool_lst, is_bool_dct, is_tuple_non, is_tuple_bl, is_tuple_int, is_tuple_str, is_tuple_tup, is_tuple_lst, is_tuple_dct, is_list_non, is_list_bl, is_list_int, is_list_str, is_list_tup, is_list_lst, is_list_dct, is_dict_non, is_dict_bl, is_dict_int, is_dict_str, is_dict_tup, is_dict_lst, is_dict_dct,
      bfD, len_s, len_l, len_t, c_eq_ii, c_ne_ii, c_lt_ii, c_le_ii, c_gt_ii, c_ge_ii, c_is_non, c_isn_non, noneD, Int.cast_ofNat_Int, Int.reduceEq, Int.reduceLT, Int.reduceLE, decide_true, decide_false, kTup, kLst, pures, sizeLine_eq, Nat.reduceLeDiff, g_tupq, idx_q0, idx_q1, is_tuple_q, len_q, k_ivq]
    by_cases h2 : xs.length = 2
    · obtain ⟨a, b, rfl⟩ : ∃ a b, xs = [a, b] := by
        match xs, h2 with
        | [a, b], _ => exact ⟨a, b, rfl⟩
      simp only [List.map_cons, List.map_nil, List.length_cons, List.length_nil, List.replicate, List.cons_append, List.nil_append, List.append_nil, Nat.reduceAdd, Nat.reduceSub, Nat.zero_add,
      e_var, e_con, e_bin, k_bin1, k_bin2, e_neg, k_neg, e_not, k_not, e_and, k_and, e_or, k_or, e_cmp, k_cmp1, k_cmp2, e_chain, k_ch1, k_ch2, e_ite, k_ite, e_call, k_call1, k_call2, e_blt, k_blt, e_meth, k_meth1, k_meth2, e_tup, e_lst, e_dct0, e_dcd, e_idx, k_idx1, k_idx2, e_slc, k_slc1, k_slc2, k_slc3, o_none, o_some, k_o, e_new, k_new, e_lc, k_lc, lc_g, es_nil, es_cons, k_es1, k_es2, t_nil, t_cons, k_t, i_val, i_range, i_enum, k_ent, k_enl, enumD, s_par, k_par, setAll, k_body, k_turn, k_ivl, k_ivt, k_ivs,
      g_name, g_tup, g_sub, k_sub1, gs_nil, gs_cons, k_gs, s_asg, k_asg1, k_nx, s_expr, k_expr, s_ret, k_ret, s_iff, k_if, s_for, k_for, s_aug, s_pass, ss_nil, ss_cons, k_ss, bind_ok, bind_exc, bind_stuck, go_ok, go_exc, seq_nx, seq_rt, seq_exc, turn_nx, turn_rt, turn_exc, calm_ok', end_d, end_nx, end_exc, tru_bl, give, give_b, ders, der, arrD, List.getElem?_cons_zero, List.getElem?_cons_succ, List.set_cons_zero, List.set_cons_succ, if_true, if_false, Bool.false_eq_true, Bool.not_true, Bool.not_false, List.take_length,
      e_isi, k_isi, e_tin, k_tinP, k_tinN, e_tget, k_tget, g_star, i_zip, is_int_non, is_int_bl, is_int_int, is_int_str, is_int_tup, is_int_lst, is_int_dct, is_str_non, is_str_bl, is_str_int, is_str_str, is_str_tup, is_str_lst, is_str_dct, is_bool_non, is_bool_bl, is_bool_int, is_bool_str, is_bool_tup, is_bool_lst, is_bool_dct, is_tuple_non, is_tuple_bl, is_tuple_int, is_tuple_str, is_tuple_tup, is_tuple_lst, is_tuple_dct, is_list_non, is_list_bl, is_list_int, is_list_str, is_list_tup, is_list_lst, is_list_dct, is_dict_non, is_dict_bl, is_dict_int, is_dict_str, is_dict_tup, is_dict_lst, is_dict_dct,
      bfD, len_s, len_l, len_t, c_eq_ii, c_ne_ii, c_lt_ii, c_le_ii, c_gt_ii, c_ge_ii, c_is_non, c_isn_non, noneD, Int.cast_ofNat_Int, Int.reduceEq, Int.reduceLT, Int.reduceLE, decide_true, decide_false, kTup, kLst, pures, sizeLine_eq, Nat.reduceLeDiff, g_tupq, idx_q0, idx_q1, is_tuple_q, len_q, k_ivq, wipeE, hl _ (show 1 < [some (Vv.d (.tup [a, b])), none, none, none].length by simp), allD, bools]
      cases a <;> simp only [isNumD, List.map_cons, List.map_nil, List.length_cons, List.length_nil, List.replicate, List.cons_append, List.nil_append, List.append_nil, Nat.reduceAdd, Nat.reduceSub, Nat.zero_add,
      e_var, e_con, e_bin, k_bin1, k_bin2, e_neg, k_neg, e_not, k_not, e_and, k_and, e_or, k_or, e_cmp, k_cmp1, k_cmp2, e_chain, k_ch1, k_ch2, e_ite, k_ite, e_call, k_call1, k_call2, e_blt, k_blt, e_meth, k_meth1, k_meth2, e_tup, e_lst, e_dct0, e_dcd, e_idx, k_idx1, k_idx2, e_slc, k_slc1, k_slc2, k_slc3, o_none, o_some, k_o, e_new, k_new, e_lc, k_lc, lc_g, es_nil, es_cons, k_es1, k_es2, t_nil, t_cons, k_t, i_val, i_range, i_enum, k_ent, k_enl, enumD, s_par, k_par, setAll, k_body, k_turn, k_ivl, k_ivt, k_ivs,
      g_name, g_tup, g_sub, k_sub1, gs_nil, gs_cons, k_gs, s_asg, k_asg1, k_nx, s_expr, k_expr, s_ret, k_ret, s_iff, k_if, s_for, k_for, s_aug, s_pass, ss_nil, ss_cons, k_ss, bind_ok, bind_exc, bind_stuck, go_ok, go_exc, seq_nx, seq_rt, seq_exc, turn_nx, turn_rt, turn_exc, calm_ok', end_d, end_nx, end_exc, tru_bl, give, give_b, ders, der, arrD, List.getElem?_cons_zero, List.getElem?_cons_succ, List.set_cons_zero, List.set_cons_succ, if_true, if_false, Bool.false_eq_true, Bool.not_true, Bool.not_false, List.take_length,
      e_isi, k_isi, e_tin, k_tinP, k_tinN, e_tget, k_tget, g_star, i_zip, is_int_non, is_int_bl, is_int_int, is_int_str, is_int_tup, is_int_lst, is_int_dct, is_str_non, is_str_bl, is_str_int, is_str_str, is_str_tup, is_str_lst, is_str_dct, is_bool_non, is_bool_bl, is_bool_int, is_bool_str, is_bool_tup, is_bool_lst, is_bool_dct, is_tuple_non, is_tuple_bl, is_tuple_int, is_tuple_str, is_tuple_tup, is_tuple_lst, is_tuple_dct, is_list_non, is_list_bl, is_list_int, is_list_str, is_list_tup, is_list_lst, is_list_dct, is_dict_non, is_dict_bl, is_dict_int, is_dict_str, is_dict_tup, is_dict_lst, is_dict_dct,
      bfD, len_s, len_l, len_t, c_eq_ii, c_ne_ii, c_lt_ii, c_le_ii, c_gt_ii, c_ge_ii, c_is_non, c_isn_non, noneD, Int.cast_ofNat_Int, Int.reduceEq, Int.reduceLT, Int.reduceLE, decide_true, decide_false, kTup, kLst, pures, sizeLine_eq, Nat.reduceLeDiff, g_tupq, idx_q0, idx_q1, is_tuple_q, len_q, k_ivq, isFrD, List.all_cons, List.all_nil, Bool.false_and, id]
      cases b <;> simp only [isNumD, List.map_cons, List.map_nil, List.length_cons, List.length_nil, List.replicate, List.cons_append, List.nil_append, List.append_nil, Nat.reduceAdd, Nat.reduceSub, Nat.zero_add,
      e_var, e_con, e_bin, k_bin1, k_bin2, e_neg, k_neg, e_not, k_not, e_and, k_and, e_or, k_or, e_cmp, k_cmp1, k_cmp2, e_chain, k_ch1, k_ch2, e_ite, k_ite, e_call, k_call1, k_call2, e_blt, k_blt, e_meth, k_meth1, k_meth2, e_tup, e_lst, e_dct0, e_dcd, e_idx, k_idx1, k_idx2, e_slc, k_slc1, k_slc2, k_slc3, o_none, o_some, k_o, e_new, k_new, e_lc, k_lc, lc_g, es_nil, es_cons, k_es1, k_es2, t_nil, t_cons, k_t, i_val, i_range, i_enum, k_ent, k_enl, enumD, s_par, k_par, setAll, k_body, k_turn, k_ivl, k_ivt, k_ivs,
      g_name, g_tup, g_sub, k_sub1, gs_nil, gs_cons, k_gs, s_asg, k_asg1, k_nx, s_expr, k_expr, s_ret, k_ret, s_iff, k_if, s_for, k_for, s_aug, s_pass, ss_nil, ss_cons, k_ss, bind_ok, bind_exc, bind_stuck, go_ok, go_exc, seq_nx, seq_rt, seq_exc, turn_nx, turn_rt, turn_exc, calm_ok', end_d, end_nx, end_exc, tru_bl, give, give_b, ders, der, arrD, List.getElem?_cons_zero, List.getElem?_cons_succ, List.set_cons_zero, List.set_cons_succ, if_true, if_false, Bool.false_eq_true, Bool.not_true, Bool.not_false, List.take_length,
      e_isi, k_isi, e_tin, k_tinP, k_tinN, e_tget, k_tget, g_star, i_zip, is_int_non, is_int_bl, is_int_int, is_int_str, is_int_tup, is_int_lst, is_int_dct, is_str_non, is_str_bl, is_str_int, is_str_str, is_str_tup, is_str_lst, is_str_dct, is_bool_non, is_bool_bl, is_bool_int, is_bool_str, is_bool_tup, is_bool_lst, is_bool_dct, is_tuple_non, is_tuple_bl, is_tuple_int, is_tuple_str, is_tuple_tup, is_tuple_lst, is_tuple_dct, is_list_non, is_list_bl, is_list_int, is_list_str, is_list_tup, is_list_lst, is_list_dct, is_dict_non, is_dict_bl, is_dict_int, is_dict_str, is_dict_tup, is_dict_lst, is_dict_dct,
      bfD, len_s, len_l, len_t, c_eq_ii, c_ne_ii, c_lt_ii, c_le_ii, c_gt_ii, c_ge_ii, c_is_non, c_isn_non, noneD, Int.cast_ofNat_Int, Int.reduceEq, Int.reduceLT, Int.reduceLE, decide_true, decide_false, kTup, kLst, pures, sizeLine_eq, Nat.reduceLeDiff, g_tupq, idx_q0, idx_q1, is_tuple_q, len_q, k_ivq, isFrD, List.all_cons, List.all_nil, Bool.false_and, Bool.and_true, Bool.true_and, id]
      rename_i i j
      by_cases hj : 0 < j
      · obtain ⟨j, rfl⟩ : ∃ m : Nat, j = m := ⟨j.toNat, by omega⟩
        have hj2 := h i j rfl
        simp only [hj, List.map_cons, List.map_nil, List.length_cons, List.length_nil, List.replicate, List.cons_append, List.nil_append, List.append_nil, Nat.reduceAdd, Nat.reduceSub, Nat.zero_add,
      e_var, e_con, e_bin, k_bin1, k_bin2, e_neg, k_neg, e_not, k_not, e_and, k_and, e_or, k_or, e_cmp, k_cmp1, k_cmp2, e_chain, k_ch1, k_ch2, e_ite, k_ite, e_call, k_call1, k_call2, e_blt, k_blt, e_meth, k_meth1, k_meth2, e_tup, e_lst, e_dct0, e_dcd, e_idx, k_idx1, k_idx2, e_slc, k_slc1, k_slc2, k_slc3, o_none, o_some, k_o, e_new, k_new, e_lc, k_lc, lc_g, es_nil, es_cons, k_es1, k_es2, t_nil, t_cons, k_t, i_val, i_range, i_enum, k_ent, k_enl, enumD, s_par, k_par, setAll, k_body, k_turn, k_ivl, k_ivt, k_ivs,
      g_name, g_tup, g_sub, k_sub1, gs_nil, gs_cons, k_gs, s_asg, k_asg1, k_nx, s_expr, k_expr, s_ret, k_ret, s_iff, k_if, s_for, k_for, s_aug, s_pass, ss_nil, ss_cons, k_ss, bind_ok, bind_exc, bind_stuck, go_ok, go_exc, seq_nx, seq_rt, seq_exc, turn_nx, turn_rt, turn_exc, calm_ok', end_d, end_nx, end_exc, tru_bl, give, give_b, ders, der, arrD, List.getElem?_cons_zero, List.getElem?_cons_succ, List.set_cons_zero, List.set_cons_succ, if_true, if_false, Bool.false_eq_true, Bool.not_true, Bool.not_false, List.take_length,
      e_isi, k_isi, e_tin, k_tinP, k_tinN, e_tget, k_tget, g_star, i_zip, is_int_non, is_int_bl, is_int_int, is_int_str, is_int_tup, is_int_lst, is_int_dct, is_str_non, is_str_bl, is_str_int, is_str_str, is_str_tup, is_str_lst, is_str_dct, is_bool_non, is_bool_bl, is_bool_int, is_bool_str, is_bool_tup, is_bool_lst, is_bool_dct, is_tuple_non, is_tuple_bl, is_tuple_int, is_tuple_str, is_tuple_tup, is_tuple_lst, is_tuple_dct, is_list_non, is_list_bl, is_list_int, is_list_str, is_list_tup, is_list_lst, is_list_dct, is_dict_non, is_dict_bl, is_dict_int, is_dict_str, is_dict_tup, is_dict_lst, is_dict_dct,
      bfD, len_s, len_l, len_t, c_eq_ii, c_ne_ii, c_lt_ii, c_le_ii, c_gt_ii, c_ge_ii, c_is_non, c_isn_non, noneD, Int.cast_ofNat_Int, Int.reduceEq, Int.reduceLT, Int.reduceLE, decide_true, decide_false, kTup, kLst, pures, sizeLine_eq, Nat.reduceLeDiff, g_tupq, idx_q0, idx_q1, is_tuple_q, len_q, k_ivq, absI, divisor_ok T k st i.natAbs j hj2, Int.natAbs_natCast, Bool.true_and]
        congr 3
        rw [Bool.eq_iff_iff]
        simp only [decide_eq_true_eq]
        omega
      · simp only [hj, List.map_cons, List.map_nil, List.length_cons, List.length_nil, List.replicate, List.cons_append, List.nil_append, List.append_nil, Nat.reduceAdd, Nat.reduceSub, Nat.zero_add,
      e_var, e_con, e_bin, k_bin1, k_bin2, e_neg, k_neg, e_not, k_not, e_and, k_and, e_or, k_or, e_cmp, k_cmp1, k_cmp2, e_chain, k_ch1, k_ch2, e_ite, k_ite, e_call, k_call1, k_call2, e_blt, k_blt, e_meth, k_meth1, k_meth2, e_tup, e_lst, e_dct0, e_dcd, e_idx, k_idx1, k_idx2, e_slc, k_slc1, k_slc2, k_slc3, o_none, o_some, k_o, e_new, k_new, e_lc, k_lc, lc_g, es_nil, es_cons, k_es1, k_es2, t_nil, t_cons, k_t, i_val, i_range, i_enum, k_ent, k_enl, enumD, s_par, k_par, setAll, k_body, k_turn, k_ivl, k_ivt, k_ivs,
      g_name, g_tup, g_sub, k_sub1, gs_nil, gs_cons, k_gs, s_asg, k_asg1, k_nx, s_expr, k_expr, s_ret, k_ret, s_iff, k_if, s_for, k_for, s_aug, s_pass, ss_nil, ss_cons, k_ss, bind_ok, bind_exc, bind_stuck, go_ok, go_exc, seq_nx, seq_rt, seq_exc, turn_nx, turn_rt, turn_exc, calm_ok', end_d, end_nx, end_exc, tru_bl, give, give_b, ders, der, arrD, List.getElem?_cons_zero, List.getElem?_cons_succ, List.set_cons_zero, List.set_cons_succ, if_true, if_false, Bool.false_eq_true, Bool.not_true, Bool.not_false, List.take_length,
      e_isi, k_isi, e_tin, k_tinP, k_tinN, e_tget, k_tget, g_star, i_zip, is_int_non, is_int_bl, is_int_int, is_int_str, is_int_tup, is_int_lst, is_int_dct, is_str_non, is_str_bl, is_str_int, is_str_str, is_str_tup, is_str_lst, is_str_dct, is_bool_non, is_bool_bl, is_bool_int, is_bool_str, is_bool_tup, is_bool_lst, is_bool_dct, is_tuple_non, is_tuple_bl, is_tuple_int, is_tuple_str, is_tuple_tup, is_tuple_lst, is_tuple_dct, is_list_non, is_list_bl, is_list_int, is_list_str, is_list_tup, is_list_lst, is_list_dct, is_dict_non, is_dict_bl, is_dict_int, is_dict_str, is_dict_tup, is_dict_lst, is_dict_dct,
      bfD, len_s, len_l, len_t, c_eq_ii, c_ne_ii, c_lt_ii, c_le_ii, c_gt_ii, c_ge_ii, c_is_non, c_isn_non, noneD, Int.cast_ofNat_Int, Int.reduceEq, Int.reduceLT, Int.reduceLE, decide_true, decide_false, kTup, kLst, pures, sizeLine_eq, Nat.reduceLeDiff, g_tupq, idx_q0, idx_q1, is_tuple_q, len_q, k_ivq, Bool.false_and]
    · have e : isFrD (.tup xs) = false := by
        match xs, h2 with
        | [], _ => rfl
        | [_], _ => simp [isFrD]
        | _ :: _ :: _ :: _, _ => simp [isFrD]
      have h3 : ¬ ((xs.length : Int) = 2) := by omega
      simp only [h3, List.map_cons, List.map_nil, List.length_cons, List.length_nil, List.replicate, List.cons_append, List.nil_append, List.append_nil, Nat.reduceAdd, Nat.reduceSub, Nat.zero_add,
      e_var, e_con, e_bin, k_bin1, k_bin2, e_neg, k_neg, e_not, k_not, e_and, k_and, e_or, k_or, e_cmp, k_cmp1, k_cmp2, e_chain, k_ch1, k_ch2, e_ite, k_ite, e_call, k_call1, k_call2, e_blt, k_blt, e_meth, k_meth1, k_meth2, e_tup, e_lst, e_dct0, e_dcd, e_idx, k_idx1, k_idx2, e_slc, k_slc1, k_slc2, k_slc3, o_none, o_some, k_o, e_new, k_new, e_lc, k_lc, lc_g, es_nil, es_cons, k_es1, k_es2, t_nil, t_cons, k_t, i_val, i_range, i_enum, k_ent, k_enl, enumD, s_par, k_par, setAll, k_body, k_turn, k_ivl, k_ivt, k_ivs,
      g_name, g_tup, g_sub, k_sub1, gs_nil, gs_cons, k_gs, s_asg, k_asg1, k_nx, s_expr, k_expr, s_ret, k_ret, s_iff, k_if, s_for, k_for, s_aug, s_pass, ss_nil, ss_cons, k_ss, bind_ok, bind_exc, bind_stuck, go_ok, go_exc, seq_nx, seq_rt, seq_exc, turn_nx, turn_rt, turn_exc, calm_ok', end_d, end_nx, end_exc, tru_bl, give, give_b, ders, der, arrD, List.getElem?_cons_zero, List.getElem?_cons_succ, List.set_cons_zero, List.set_cons_succ, if_true, if_false, Bool.false_eq_true, Bool.not_true, Bool.not_false, List.take_length,
      e_isi, k_isi, e_tin, k_tinP, k_tinN, e_tget, k_tget, g_star, i_zip, is_int_non, is_int_bl, is_int_int, is_int_str, is_int_tup, is_int_lst, is_int_dct, is_str_non, is_str_bl, is_str_int, is_str_str, is_str_tup, is_str_lst, is_str_dct, is_bool_non, is_bool_bl, is_bool_int, is_bool_str, is_bool_tup, is_bool_lst, is_bool_dct, is_tuple_non, is_tuple_bl, is_tuple_int, is_tuple_str, is_tuple_tup, is_tuple_lst, is_tuple_dct, is_list_non, is_list_bl, is_list_int, is_list_str, is_list_tup, is_list_lst, is_list_dct, is_dict_non, is_dict_bl, is_dict_int, is_dict_str, is_dict_tup, is_dict_lst, is_dict_dct,
      bfD, len_s, len_l, len_t, c_eq_ii, c_ne_ii, c_lt_ii, c_le_ii, c_gt_ii, c_ge_ii, c_is_non, c_isn_non, noneD, Int.cast_ofNat_Int, Int.reduceEq, Int.reduceLT, Int.reduceLE, decide_true, decide_false, kTup, kLst, pures, sizeLine_eq, Nat.reduceLeDiff, g_tupq, idx_q0, idx_q1, is_tuple_q, len_q, k_ivq, e]
  | _ => simp only [runF, startE, I3, List.map_cons, List.map_nil, List.length_cons, List.length_nil, List.replicate, List.cons_append, List.nil_append, List.append_nil, Nat.reduceAdd, Nat.reduceSub, Nat.zero_add,
      e_var, e_con, e_bin, k_bin1, k_bin2, e_neg, k_neg, e_not, k_not, e_and, k_and, e_or, k_or, e_cmp, k_cmp1, k_cmp2, e_chain, k_ch1, k_ch2, e_ite, k_ite, e_call, k_call1, k_call2, e_blt, k_blt, e_meth, k_meth1, k_meth2, e_tup, e_lst, e_dct0, e_dcd, e_idx, k_idx1, k_idx2, e_slc, k_slc1, k_slc2, k_slc3, o_none, o_some, k_o, e_new, k_new, e_lc, k_lc, lc_g, es_nil, es_cons, k_es1, k_es2, t_nil, t_cons, k_t, i_val, i_range, i_enum, k_ent, k_enl, enumD, s_par, k_par, setAll, k_body, k_turn, k_ivl, k_ivt, k_ivs,
      g_name, g_tup, g_sub, k_sub1, gs_nil, gs_cons, k_gs, s_asg, k_asg1, k_nx, s_expr, k_expr, s_ret, k_ret, s_iff, k_if, s_for, k_for, s_aug, s_pass, ss_nil, ss_cons, k_ss, bind_ok, bind_exc, bind_stuck, go_ok, go_exc, seq_nx, seq_rt, seq_exc, turn_nx, turn_rt, turn_exc, calm_ok', end_d, end_nx, end_exc, tru_bl, give, give_b, ders, der, arrD, List.getElem?_cons_zero, List.getElem?_cons_succ, List.set_cons_zero, List.set_cons_succ, if_true, if_false, Bool.false_eq_true, Bool.not_true, Bool.not_false, List.take_length,
      e_isi, k_isi, e_tin, k_tinP, k_tinN, e_tget, k_tget, g_star, i_zip, is_int_non, is_int_bl, is_int_int, is_int_str, is_int_tup, is_int_lst, is_int_dct, is_str_non, is_str_bl, is_str_int, is_str_str, is_str_tup, is_str_lst, is_str_dct, is_bool_non, is_bool_bl, is_bool_int, is_bool_str, is_bool_tup, is_bool_lst, is_bool_dct, is_tuple_non, is_tuple_bl, is_tuple_int, is_tuple_str, is_tuple_tup, is_tuple_lst, is_tuple_dct, is_list_non, is_list_bl, is_list_int, is_list_str, is_list_tup, is_list_lst, is_list_dct, is_dict_non, is_dict_bl, is_dict_int, is_dict_str, is_dict_tup, is_dict_lst, is_dict_dct,
      bfD, len_s, len_l, len_t, c_eq_ii, c_ne_ii, c_lt_ii, c_le_ii, c_gt_ii, c_ge_ii, c_is_non, c_isn_non, noneD, Int.cast_ofNat_Int, Int.reduceEq, Int.reduceLT, Int.reduceLE, decide_true, decide_false, kTup, kLst, pures, sizeLine_eq, Nat.reduceLeDiff, g_tupq, idx_q0, idx_q1, is_tuple_q, len_q, k_ivq, isFrD]
theorem is_fraction_q {n : Nat} (q : Rat) (h : Fit n q) (h9 : n < 9000) : Fn t (k + 2) 3 [.d (qD q)] st = .ok (.d (.bl true)) st := by
  rw [is_fraction_ok T k st (qD q) (fun t b e => ?_), isFrD_q]
  simp only [qD, D.tup.injEq, List.cons.injEq, D.int.injEq, and_true] at e
  have := h.2
  have : b.natAbs = q.den := by omega
  rw [this]
  exact szB h.2 h9
theorem check_both_ok {n m : Nat} {a b : Rat} (ha : Fit n a) (hb : Fit m b) (h9 : n + m < 9000) : Fn t (k + 3) 6 [.d (qD a), .d (qD b)] st = .ok (.d .non) st := by
  rw [fn_at T rfl]
  simp only [runF, startE, I6, I6b1, for_nil, for_cons, List.map_cons, List.map_nil, List.length_cons, List.length_nil, List.replicate, List.cons_append, List.nil_append, List.append_nil, Nat.reduceAdd, Nat.reduceSub, Nat.zero_add,
      e_var, e_con, e_bin, k_bin1, k_bin2, e_neg, k_neg, e_not, k_not, e_and, k_and, e_or, k_or, e_cmp, k_cmp1, k_cmp2, e_chain, k_ch1, k_ch2, e_ite, k_ite, e_call, k_call1, k_call2, e_blt, k_blt, e_meth, k_meth1, k_meth2, e_tup, e_lst, e_dct0, e_dcd, e_idx, k_idx1, k_idx2, e_slc, k_slc1, k_slc2, k_slc3, o_none, o_some, k_o, e_new, k_new, e_lc, k_lc, lc_g, es_nil, es_cons, k_es1, k_es2, t_nil, t_cons, k_t, i_val, i_range, i_enum, k_ent, k_enl, enumD, s_par, k_par, setAll, k_body, k_turn, k_ivl, k_ivt, k_ivs,
      g_name, g_tup, g_sub, k_sub1, gs_nil, gs_cons, k_gs, s_asg, k_asg1, k_nx, s_expr, k_expr, s_ret, k_ret, s_iff, k_if, s_for, k_for, s_aug, s_pass, ss_nil, ss_cons, k_ss, bind_ok, bind_exc, bind_stuck, go_ok, go_exc, seq_nx, seq_rt, seq_exc, turn_nx, turn_rt, turn_exc, calm_ok', end_d, end_nx, end_exc, tru_bl, give, give_b, ders, der, arrD, List.getElem?_cons_zero, List.getElem?_cons_succ, List.set_cons_zero, List.set_cons_succ, if_true, if_false, Bool.false_eq_true, Bool.not_true, Bool.not_false, List.take_length,
      e_isi, k_isi, e_tin, k_tinP, k_tinN, e_tget, k_tget, g_star, i_zip, is_int_non, is_int_bl, is_int_int, is_int_str, is_int_tup, is_int_lst, is_int_dct, is_str_non, is_str_bl, is_str_int, is_str_str, is_str_tup, is_str_lst, is_str_dct, is_bool_non, is_bool_bl, is_bool_int, is_bool_str, is_bool_tup, is_bool_lst, is_bool_dct, is_tuple_non, is_tuple_bl, is_tuple_int, is_tuple_str, is_tuple_tup, is_tuple_lst, is_tuple_dct, is_list_non, is_list_bl, is_list_int, is_list_str, is_list_tup, is_list_lst, is_list_dct, is_dict_non, is_dict_bl, is_dict_int, is_dict_str, is_dict_tup, is_dict_lst, is_dict_dct,
      bfD, len_s, len_l, len_t, c_eq_ii, c_ne_ii, c_lt_ii, c_le_ii, c_gt_ii, c_ge_ii, c_is_non, c_isn_non, noneD, Int.cast_ofNat_Int, Int.reduceEq, Int.reduceLT, Int.reduceLE, decide_true, decide_false, kTup, kLst, pures, sizeLine_eq, Nat.reduceLeDiff, g_tupq, idx_q0, idx_q1, is_tuple_q, len_q, k_ivq, is_fraction_q T k st a ha (by omega), is_fraction_q T k st b hb (by omega)]
theorem plus_ok {n m : Nat} {a b : Rat} (ha : Fit n a) (hb : Fit m b) (h9 : n + m < 9000) : Fn t (k + 4) 7 [.d (qD a), .d (qD b)] st = .ok (.d (qD (a + b))) st := by
  rw [fn_at T rfl]
  have hd : (a.den * b.den : Int) ≠ 0 := Int.mul_ne_zero Fit.den_ne Fit.den_ne
  have e := lowest_ok T (k + 1) st (a.num * b.den + b.num * a.den) (a.den * b.den) (n := n + m) hd (by rw [Int.natAbs_mul, Nat.pow_add]; exact Nat.mul_lt_mul'' ha.2 hb.2) h9
  have e2 : Rat.divInt (a.num * b.den + b.num * a.den) (a.den * b.den) = a + b := by
    rw [Rat.add_def', ← Rat.divInt_ofNat, Int.natCast_mul]
  rw [e2] at e
  have m1 : binD .Mult (.int a.num) (.int b.den) = some (.int (a.num * b.den)) := mulI ha.1 (b := m) hb.2 (by omega)
  have m2 : binD .Mult (.int b.num) (.int a.den) = some (.int (b.num * a.den)) := mulI hb.1 (b := n) ha.2 (by omega)
  have m3 : binD .Mult (.int a.den) (.int b.den) = some (.int (a.den * b.den)) := mulI (a := n) ha.2 (b := m) hb.2 (by omega)
  simp only [runF, startE, I7, List.map_cons, List.map_nil, List.length_cons, List.length_nil, List.replicate, List.cons_append, List.nil_append, List.append_nil, Nat.reduceAdd, Nat.reduceSub, Nat.zero_add,
      e_var, e_con, e_bin, k_bin1, k_bin2, e_neg, k_neg, e_not, k_not, e_and, k_and, e_or, k_or, e_cmp, k_cmp1, k_cmp2, e_chain, k_ch1, k_ch2, e_ite, k_ite, e_call, k_call1, k_call2, e_blt, k_blt, e_meth, k_meth1, k_meth2, e_tup, e_lst, e_dct0, e_dcd, e_idx, k_idx1, k_idx2, e_slc, k_slc1, k_slc2, k_slc3, o_none, o_some, k_o, e_new, k_new, e_lc, k_lc, lc_g, es_nil, es_cons, k_es1, k_es2, t_nil, t_cons, k_t, i_val, i_range, i_enum, k_ent, k_enl, enumD, s_par, k_par, setAll, k_body, k_turn, k_ivl, k_ivt, k_ivs,
      g_name, g_tup, g_sub, k_sub1, gs_nil, gs_cons, k_gs, s_asg, k_asg1, k_nx, s_expr, k_expr, s_ret, k_ret, s_iff, k_if, s_for, k_for, s_aug, s_pass, ss_nil, ss_cons, k_ss, bind_ok, bind_exc, bind_stuck, go_ok, go_exc, seq_nx, seq_rt, seq_exc, turn_nx, turn_rt, turn_exc, calm_ok', end_d, end_nx, end_exc, tru_bl, give, give_b, ders, der, arrD, List.getElem?_cons_zero, List.getElem?_cons_succ, List.set_cons_zero, List.set_cons_succ, if_true, if_false, Bool.false_eq_true, Bool.not_true, Bool.not_false, List.take_length,
      e_isi, k_isi, e_tin, k_tinP, k_tinN, e_tget, k_tget, g_star, i_zip, is_int_non, is_int_bl, is_int_int, is_int_str, is_int_tup, is_int_lst, is_int_dct, is_str_non, is_str_bl, is_str_int, is_str_str, is_str_tup, is_str_lst, is_str_dct, is_bool_non, is_bool_bl, is_bool_int, is_bool_str, is_bool_tup, is_bool_lst, is_bool_dct, is_tuple_non, is_tuple_bl, is_tuple_int, is_tuple_str, is_tuple_tup, is_tuple_lst, is_tuple_dct, is_list_non, is_list_bl, is_list_int, is_list_str, is_list_tup, is_list_lst, is_list_dct, is_dict_non, is_dict_bl, is_dict_int, is_dict_str, is_dict_tup, is_dict_lst, is_dict_dct,
      bfD, len_s, len_l, len_t, c_eq_ii, c_ne_ii, c_lt_ii, c_le_ii, c_gt_ii, c_ge_ii, c_is_non, c_isn_non, noneD, Int.cast_ofNat_Int, Int.reduceEq, Int.reduceLT, Int.reduceLE, decide_true, decide_false, kTup, kLst, pures, sizeLine_eq, Nat.reduceLeDiff, g_tupq, idx_q0, idx_q1, is_tuple_q, len_q, k_ivq, check_both_ok T k st ha hb h9]
  simp only [List.map_cons, List.map_nil, List.length_cons, List.length_nil, List.replicate, List.cons_append, List.nil_append, List.append_nil, Nat.reduceAdd, Nat.reduceSub, Nat.zero_add,
      e_var, e_con, e_bin, k_bin1, k_bin2, e_neg, k_neg, e_not, k_not, e_and, k_and, e_or, k_or, e_cmp, k_cmp1, k_cmp2, e_chain, k_ch1, k_ch2, e_ite, k_ite, e_call, k_call1, k_call2, e_blt, k_blt, e_meth, k_meth1, k_meth2, e_tup, e_lst, e_dct0, e_dcd, e_idx, k_idx1, k_idx2, e_slc, k_slc1, k_slc2, k_slc3, o_none, o_some, k_o, e_new, k_new, e_lc, k_lc, lc_g, es_nil, es_cons, k_es1, k_es2, t_nil, t_cons, k_t, i_val, i_range, i_enum, k_ent, k_enl, enumD, s_par, k_par, setAll, k_body, k_turn, k_ivl, k_ivt, k_ivs,
      g_name, g_tup, g_sub, k_sub1, gs_nil, gs_cons, k_gs, s_asg, k_asg1, k_nx, s_expr, k_expr, s_ret, k_ret, s_iff, k_if, s_for, k_for, s_aug, s_pass, ss_nil, ss_cons, k_ss, bind_ok, bind_exc, bind_stuck, go_ok, go_exc, seq_nx, seq_rt, seq_exc, turn_nx, turn_rt, turn_exc, calm_ok', end_d, end_nx, end_exc, tru_bl, give, give_b, ders, der, arrD, List.getElem?_cons_zero, List.getElem?_cons_succ, List.set_cons_zero, List.set_cons_succ, if_true, if_false, Bool.false_eq_true, Bool.not_true, Bool.not_false, List.take_length,
      e_isi, k_isi, e_tin, k_tinP, k_tinN, e_tget, k_tget, g_star, i_zip, is_int_non, is_int_bl, is_int_int, is_int_str, is_int_tup, is_int_lst, is_int_dct, is_str_non, is_str_bl, is_str_int, is_str_str, is_str_tup, is_str_lst, is_str_dct, is_bool_non, is_bool_bl, is_bool_int, is_bool_str, is_bool_tup, is_bool_lst, is_bool_dct, is_tuple_non, is_tuple_bl, is_tuple_int, is_tuple_str, is_tuple_tup, is_tuple_lst, is_tuple_dct, is_list_non, is_list_bl, is_list_int, is_list_str, is_list_tup, is_list_lst, is_list_dct, is_dict_non, is_dict_bl, is_dict_int, is_dict_str, is_dict_tup, is_dict_lst, is_dict_dct,
      bfD, len_s, len_l, len_t, c_eq_ii, c_ne_ii, c_lt_ii, c_le_ii, c_gt_ii, c_ge_ii, c_is_non, c_isn_non, noneD, Int.cast_ofNat_Int, Int.reduceEq, Int.reduceLT, Int.reduceLE, decide_true, decide_false, kTup, kLst, pures, sizeLine_eq, Nat.reduceLeDiff, g_tupq, idx_q0, idx_q1, is_tuple_q, len_q, k_ivq, m1, m2, m3, addI, e]
theorem minus_ok {n m : Nat} {a b : Rat} (ha : Fit n a) (hb : Fit m b) (h9 : n + m < 9000) : Fn t (k + 4) 8 [.d (qD a), .d (qD b)] st = .ok (.d (qD (a - b))) st := by
  rw [fn_at T rfl]
  have hd : (a.den * b.den : Int) ≠ 0 := Int.mul_ne_zero Fit.den_ne Fit.den_ne
  have e := lowest_ok T (k + 1) st (a.num * b.den - b.num * a.den) (a.den * b.den) (n := n + m) hd (by rw [Int.natAbs_mul, Nat.pow_add]; exact Nat.mul_lt_mul'' ha.2 hb.2) h9
  have e2 : Rat.divInt (a.num * b.den - b.num * a.den) (a.den * b.den) = a - b := by
    rw [Rat.sub_def', ← Rat.divInt_ofNat, Int.natCast_mul]
  rw [e2] at e
  have m1 : binD .Mult (.int a.num) (.int b.den) = some (.int (a.num * b.den)) := mulI ha.1 (b := m) hb.2 (by omega)
  have m2 : binD .Mult (.int b.num) (.int a.den) = some (.int (b.num * a.den)) := mulI hb.1 (b := n) ha.2 (by omega)
  have m3 : binD .Mult (.int a.den) (.int b.den) = some (.int (a.den * b.den)) := mulI (a := n) ha.2 (b := m) hb.2 (by omega)
  simp only [runF, startE, I8, List.map_cons, List.map_nil, List.length_cons, List.length_nil, List.replicate, List.cons_append, List.nil_append, List.append_nil, Nat.reduceAdd, Nat.reduceSub, Nat.zero_add,
      e_var, e_con, e_bin, k_bin1, k_bin2, e_neg, k_neg, e_not, k_not, e_and, k_and, e_or, k_or, e_cmp, k_cmp1, k_cmp2, e_chain, k_ch1, k_ch2, e_ite, k_ite, e_call, k_call1, k_call2, e_blt, k_blt, e_meth, k_meth1, k_meth2, e_tup, e_lst, e_dct0, e_dcd, e_idx, k_idx1, k_idx2, e_slc, k_slc1, k_slc2, k_slc3, o_none, o_some, k_o, e_new, k_new, e_lc, k_lc, lc_g, es_nil, es_cons, k_es1, k_es2, t_nil, t_cons, k_t, i_val, i_range, i_enum, k_ent, k_enl, enumD, s_par, k_par, setAll, k_body, k_turn, k_ivl, k_ivt, k_ivs,
      g_name, g_tup, g_sub, k_sub1, gs_nil, gs_cons, k_gs, s_asg, k_asg1, k_nx, s_expr, k_expr, s_ret, k_ret, s_iff, k_if, s_for, k_for, s_aug, s_pass, ss_nil, ss_cons, k_ss, bind_ok, bind_exc, bind_stuck, go_ok, go_exc, seq_nx, seq_rt, seq_exc, turn_nx, turn_rt, turn_exc, calm_ok', end_d, end_nx, end_exc, tru_bl, give, give_b, ders, der, arrD, List.getElem?_cons_zero, List.getElem?_cons_succ, List.set_cons_zero, List.set_cons_succ, if_true, if_false, Bool.false_eq_true, Bool.not_true, Bool.not_false, List.take_length,
      e_isi, k_isi, e_tin, k_tinP, k_tinN, e_tget, k_tget, g_star, i_zip, is_int_non, is_int_bl, is_int_int, is_int_str, is_int_tup, is_int_lst, is_int_dct, is_str_non, is_str_bl, is_str_int, is_str_str, is_str_tup, is_str_lst, is_str_dct, is_bool_non, is_bool_bl, is_bool_int, is_bool_str, is_bool_tup, is_bool_lst, is_bool_dct, is_tuple_non, is_tuple_bl, is_tuple_int, is_tuple_str, is_tuple_tup, is_tuple_lst, is_tuple_dct, is_list_non, is_list_bl, is_list_int, is_list_str, is_list_tup, is_list_lst, is_list_dct, is_dict_non, is_dict_bl, is_dict_int, is_dict_str, is_dict_tup, is_dict_lst, is_dict_dct,
      bfD, len_s, len_l, len_t, c_eq_ii, c_ne_ii, c_lt_ii, c_le_ii, c_gt_ii, c_ge_ii, c_is_non, c_isn_non, noneD, Int.cast_ofNat_Int, Int.reduceEq, Int.reduceLT, Int.reduceLE, decide_true, decide_false, kTup, kLst, pures, sizeLine_eq, Nat.reduceLeDiff, g_tupq, idx_q0, idx_q1, is_tuple_q, len_q, k_ivq, check_both_ok T k st ha hb h9]
  simp only [List.map_cons, List.map_nil, List.length_cons, List.length_nil, List.replicate, List.cons_append, List.nil_append, List.append_nil, Nat.reduceAdd, Nat.reduceSub, Nat.zero_add,
      e_var, e_con, e_bin, k_bin1, k_bin2, e_neg, k_neg, e_not, k_not, e_and, k_and, e_or, k_or, e_cmp, k_cmp1, k_cmp2, e_chain, k_ch1, k_ch2, e_ite, k_ite, e_call, k_call1, k_call2, e_blt, k_blt, e_meth, k_meth1, k_meth2, e_tup, e_lst, e_dct0, e_dcd, e_idx, k_idx1, k_idx2, e_slc, k_slc1, k_slc2, k_slc3, o_none, o_some, k_o, e_new, k_new, e_lc, k_lc, lc_g, es_nil, es_cons, k_es1, k_es2, t_nil, t_cons, k_t, i_val, i_range, i_enum, k_ent, k_enl, enumD, s_par, k_par, setAll, k_body, k_turn, k_ivl, k_ivt, k_ivs,
      g_name, g_tup, g_sub, k_sub1, gs_nil, gs_cons, k_gs, s_asg, k_asg1, k_nx, s_expr, k_expr, s_ret, k_ret, s_iff, k_if, s_for, k_for, s_aug, s_pass, ss_nil, ss_cons, k_ss, bind_ok, bind_exc, bind_stuck, go_ok, go_exc, seq_nx, seq_rt, seq_exc, turn_nx, turn_rt, turn_exc, calm_ok', end_d, end_nx, end_exc, tru_bl, give, give_b, ders, der, arrD, List.getElem?_cons_zero, List.getElem?_cons_succ, List.set_cons_zero, List.set_cons_succ, if_true, if_false, Bool.false_eq_true, Bool.not_true, Bool.not_false, List.take_length,
      e_isi, k_isi, e_tin, k_tinP, k_tinN, e_tget, k_tget, g_star, i_zip, is_int_non, is_int_bl, is_int_int, is_int_str, is_int_tup, is_int_lst, is_int_dct, is_str_non, is_str_bl, is_str_int, is_str_str, is_str_tup, is_str_lst, is_str_dct, is_bool_non, is_bool_bl, is_bool_int, is_bool_str, is_bool_tup, is_bool_lst, is_bool_dct, is_tuple_non, is_tuple_bl, is_tuple_int, is_tuple_str, is_tuple_tup, is_tuple_lst, is_tuple_dct, is_list_non, is_list_bl, is_list_int, is_list_str, is_list_tup, is_list_lst, is_list_dct, is_dict_non, is_dict_bl, is_dict_int, is_dict_str, is_dict_tup, is_dict_lst, is_dict_dct,
      bfD, len_s, len_l, len_t, c_eq_ii, c_ne_ii, c_lt_ii, c_le_ii, c_gt_ii, c_ge_ii, c_is_non, c_isn_non, noneD, Int.cast_ofNat_Int, Int.reduceEq, Int.reduceLT, Int.reduceLE, decide_true, decide_false, kTup, kLst, pures, sizeLine_eq, Nat.reduceLeDiff, g_tupq, idx_q0, idx_q1, is_tuple_q, len_q, k_ivq, m1, m2, m3, subI, e]
omit T in
theorem at0 {a b : D} : idxD (.tup [a, b]) (.int 0) = some a := rfl
omit T in
theorem at1 {a b : D} : idxD (.tup [a, b]) (.int 1) = some b := rfl
theorem times_ok {n m : Nat} {a b : Rat} (ha : Fit n a) (hb : Fit m b) (h9 : n + m < 9000) : Fn t (k + 4) 9 [.d (qD a), .d (qD b)] st = .ok (.d (qD (a * b))) st := by
  rw [fn_at T rfl]
  have hd : (a.den * b.den : Int) ≠ 0 := Int.mul_ne_zero Fit.den_ne Fit.den_ne
  have e := lowest_ok T (k + 1) st (a.num * b.num) (a.den * b.den) (n := n + m) hd (by rw [Int.natAbs_mul, Nat.pow_add]; exact Nat.mul_lt_mul'' ha.2 hb.2) h9
  have e2 : Rat.divInt (a.num * b.num) (a.den * b.den) = a * b := by
    rw [Rat.mul_def', ← Rat.divInt_ofNat, Int.natCast_mul]
  rw [e2] at e
  have m1 : binD .Mult (.int a.num) (.int b.num) = some (.int (a.num * b.num)) := mulI ha.1 hb.1 (by omega)
  have m3 : binD .Mult (.int a.den) (.int b.den) = some (.int (a.den * b.den)) := mulI (a := n) ha.2 (b := m) hb.2 (by omega)
  simp only [runF, startE, I9, List.map_cons, List.map_nil, List.length_cons, List.length_nil, List.replicate, List.cons_append, List.nil_append, List.append_nil, Nat.reduceAdd, Nat.reduceSub, Nat.zero_add,
      e_var, e_con, e_bin, k_bin1, k_bin2, e_neg, k_neg, e_not, k_not, e_and, k_and, e_or, k_or, e_cmp, k_cmp1, k_cmp2, e_chain, k_ch1, k_ch2, e_ite, k_ite, e_call, k_call1, k_call2, e_blt, k_blt, e_meth, k_meth1, k_meth2, e_tup, e_lst, e_dct0, e_dcd, e_idx, k_idx1, k_idx2, e_slc, k_slc1, k_slc2, k_slc3, o_none, o_some, k_o, e_new, k_new, e_lc, k_lc, lc_g, es_nil, es_cons, k_es1, k_es2, t_nil, t_cons, k_t, i_val, i_range, i_enum, k_ent, k_enl, enumD, s_par, k_par, setAll, k_body, k_turn, k_ivl, k_ivt, k_ivs,
      g_name, g_tup, g_sub, k_sub1, gs_nil, gs_cons, k_gs, s_asg, k_asg1, k_nx, s_expr, k_expr, s_ret, k_ret, s_iff, k_if, s_for, k_for, s_aug, s_pass, ss_nil, ss_cons, k_ss, bind_ok, bind_exc, bind_stuck, go_ok, go_exc, seq_nx, seq_rt, seq_exc, turn_nx, turn_rt, turn_exc, calm_ok', end_d, end_nx, end_exc, tru_bl, give, give_b, ders, der, arrD, List.getElem?_cons_zero, List.getElem?_cons_succ, List.set_cons_zero, List.set_cons_succ, if_true, if_false, Bool.false_eq_true, Bool.not_true, Bool.not_false, List.take_length,
      e_isi, k_isi, e_tin, k_tinP, k_tinN, e_tget, k_tget, g_star, i_zip, is_int_non, is_int_bl, is_int_int, is_int_str, is_int_tup, is_int_lst, is_int_dct, is_str_non, is_str_bl, is_str_int, is_str_str, is_str_tup, is_str_lst, is_str_dct, is_bool_non, is_bool_bl, is_bool_int, is_bool_str, is_bool_tup, is_bool_lst, is_bool_dct, is_tuple_non, is_tuple_bl, is_tuple_int, is_tuple_str, is_tuple_tup, is_tuple_lst, is_tuple_dct, is_list_non, is_list_bl, is_list_int, is_list_str, is_list_tup, is_list_lst, is_list_dct, is_dict_non, is_dict_bl, is_dict_int, is_dict_str, is_dict_tup, is_dict_lst, is_dict_dct,
      bfD, len_s, len_l, len_t, c_eq_ii, c_ne_ii, c_lt_ii, c_le_ii, c_gt_ii, c_ge_ii, c_is_non, c_isn_non, noneD, Int.cast_ofNat_Int, Int.reduceEq, Int.reduceLT, Int.reduceLE, decide_true, decide_false, kTup, kLst, pures, sizeLine_eq, Nat.reduceLeDiff, g_tupq, idx_q0, idx_q1, is_tuple_q, len_q, k_ivq, check_both_ok T k st ha hb h9]
  simp only [List.map_cons, List.map_nil, List.length_cons, List.length_nil, List.replicate, List.cons_append, List.nil_append, List.append_nil, Nat.reduceAdd, Nat.reduceSub, Nat.zero_add,
      e_var, e_con, e_bin, k_bin1, k_bin2, e_neg, k_neg, e_not, k_not, e_and, k_and, e_or, k_or, e_cmp, k_cmp1, k_cmp2, e_chain, k_ch1, k_ch2, e_ite, k_ite, e_call, k_call1, k_call2, e_blt, k_blt, e_meth, k_meth1, k_meth2, e_tup, e_lst, e_dct0, e_dcd, e_idx, k_idx1, k_idx2, e_slc, k_slc1, k_slc2, k_slc3, o_none, o_some, k_o, e_new, k_new, e_lc, k_lc, lc_g, es_nil, es_cons, k_es1, k_es2, t_nil, t_cons, k_t, i_val, i_range, i_enum, k_ent, k_enl, enumD, s_par, k_par, setAll, k_body, k_turn, k_ivl, k_ivt, k_ivs,
      g_name, g_tup, g_sub, k_sub1, gs_nil, gs_cons, k_gs, s_asg, k_asg1, k_nx, s_expr, k_expr, s_ret, k_ret, s_iff, k_if, s_for, k_for, s_aug, s_pass, ss_nil, ss_cons, k_ss, bind_ok, bind_exc, bind_stuck, go_ok, go_exc, seq_nx, seq_rt, seq_exc, turn_nx, turn_rt, turn_exc, calm_ok', end_d, end_nx, end_exc, tru_bl, give, give_b, ders, der, arrD, List.getElem?_cons_zero, List.getElem?_cons_succ, List.set_cons_zero, List.set_cons_succ, if_true, if_false, Bool.false_eq_true, Bool.not_true, Bool.not_false, List.take_length,
      e_isi, k_isi, e_tin, k_tinP, k_tinN, e_tget, k_tget, g_star, i_zip, is_int_non, is_int_bl, is_int_int, is_int_str, is_int_tup, is_int_lst, is_int_dct, is_str_non, is_str_bl, is_str_int, is_str_str, is_str_tup, is_str_lst, is_str_dct, is_bool_non, is_bool_bl, is_bool_int, is_bool_str, is_bool_tup, is_bool_lst, is_bool_dct, is_tuple_non, is_tuple_bl, is_tuple_int, is_tuple_str, is_tuple_tup, is_tuple_lst, is_tuple_dct, is_list_non, is_list_bl, is_list_int, is_list_str, is_list_tup, is_list_lst, is_list_dct, is_dict_non, is_dict_bl, is_dict_int, is_dict_str, is_dict_tup, is_dict_lst, is_dict_dct,
      bfD, len_s, len_l, len_t, c_eq_ii, c_ne_ii, c_lt_ii, c_le_ii, c_gt_ii, c_ge_ii, c_is_non, c_isn_non, noneD, Int.cast_ofNat_Int, Int.reduceEq, Int.reduceLT, Int.reduceLE, decide_true, decide_false, kTup, kLst, pures, sizeLine_eq, Nat.reduceLeDiff, g_tupq, idx_q0, idx_q1, is_tuple_q, len_q, k_ivq, m1, m3, e]
theorem over_ok {n m : Nat} {a b : Rat} (ha : Fit n a) (hb : Fit m b) (h9 : n + m < 9000) (h0 : b ≠ 0) : Fn t (k + 4) 10 [.d (qD a), .d (qD b)] st = .ok (.d (qD (a / b))) st := by
  rw [fn_at T rfl]
  have hb0 : b.num ≠ 0 := fun z => h0 (Rat.num_eq_zero.mp z)
  have hd : (a.den * b.num : Int) ≠ 0 := Int.mul_ne_zero Fit.den_ne hb0
  have e := lowest_ok T (k + 1) st (a.num * b.den) (a.den * b.num) (n := n + m) hd (by rw [Int.natAbs_mul, Nat.pow_add]; exact Nat.mul_lt_mul'' ha.2 hb.1) h9
  have e2 : Rat.divInt (a.num * b.den) (a.den * b.num) = a / b := by
    rw [Rat.div_def, Rat.inv_def, ← Rat.divInt_mul_divInt, Rat.num_divInt_den]
  rw [e2] at e
  have m1 : binD .Mult (.int a.num) (.int b.den) = some (.int (a.num * b.den)) := mulI ha.1 (b := m) hb.2 (by omega)
  have m3 : binD .Mult (.int a.den) (.int b.num) = some (.int (a.den * b.num)) := mulI (a := n) ha.2 (b := m) hb.1 (by omega)
  simp only [runF, startE, I10, List.map_cons, List.map_nil, List.length_cons, List.length_nil, List.replicate, List.cons_append, List.nil_append, List.append_nil, Nat.reduceAdd, Nat.reduceSub, Nat.zero_add,
      e_var, e_con, e_bin, k_bin1, k_bin2, e_neg, k_neg, e_not, k_not, e_and, k_and, e_or, k_or, e_cmp, k_cmp1, k_cmp2, e_chain, k_ch1, k_ch2, e_ite, k_ite, e_call, k_call1, k_call2, e_blt, k_blt, e_meth, k_meth1, k_meth2, e_tup, e_lst, e_dct0, e_dcd, e_idx, k_idx1, k_idx2, e_slc, k_slc1, k_slc2, k_slc3, o_none, o_some, k_o, e_new, k_new, e_lc, k_lc, lc_g, es_nil, es_cons, k_es1, k_es2, t_nil, t_cons, k_t, i_val, i_range, i_enum, k_ent, k_enl, enumD, s_par, k_par, setAll, k_body, k_turn, k_ivl, k_ivt, k_ivs,
      g_name, g_tup, g_sub, k_sub1, gs_nil, gs_cons, k_gs, s_asg, k_asg1, k_nx, s_expr, k_expr, s_ret, k_ret, s_iff, k_if, s_for, k_for, s_aug, s_pass, ss_nil, ss_cons, k_ss, bind_ok, bind_exc, bind_stuck, go_ok, go_exc, seq_nx, seq_rt, seq_exc, turn_nx, turn_rt, turn_exc, calm_ok', end_d, end_nx, end_exc, tru_bl, give, give_b, ders, der, arrD, List.getElem?_cons_zero, List.getElem?_cons_succ, List.set_cons_zero, List.set_cons_succ, if_true, if_false, Bool.false_eq_true, Bool.not_true, Bool.not_false, List.take_length,
      e_isi, k_isi, e_tin, k_tinP, k_tinN, e_tget, k_tget, g_star, i_zip, is_int_non, is_int_bl, is_int_int, is_int_str, is_int_tup, is_int_lst, is_int_dct, is_str_non, is_str_bl, is_str_int, is_str_str, is_str_tup, is_str_lst, is_str_dct, is_bool_non, is_bool_bl, is_bool_int, is_bool_str, is_bool_tup, is_bool_lst, is_bool_dct, is_tuple_non, is_tuple_bl, is_tuple_int, is_tuple_str, is_tuple_tup, is_tuple_lst, is_tuple_dct, is_list_non, is_list_bl, is_list_int, is_list_str, is_list_tup, is_list_lst, is_list_dct, is_dict_non, is_dict_bl, is_dict_int, is_dict_str, is_dict_tup, is_dict_lst, is_dict_dct,
      bfD, len_s, len_l, len_t, c_eq_ii, c_ne_ii, c_lt_ii, c_le_ii, c_gt_ii, c_ge_ii, c_is_non, c_isn_non, noneD, Int.cast_ofNat_Int, Int.reduceEq, Int.reduceLT, Int.reduceLE, decide_true, decide_false, kTup, kLst, pures, sizeLine_eq, Nat.reduceLeDiff, g_tupq, idx_q0, idx_q1, is_tuple_q, len_q, k_ivq, check_both_ok T k st ha hb h9, qD_zero, c_eq_q, h0]
  simp only [List.map_cons, List.map_nil, List.length_cons, List.length_nil, List.replicate, List.cons_append, List.nil_append, List.append_nil, Nat.reduceAdd, Nat.reduceSub, Nat.zero_add,
      e_var, e_con, e_bin, k_bin1, k_bin2, e_neg, k_neg, e_not, k_not, e_and, k_and, e_or, k_or, e_cmp, k_cmp1, k_cmp2, e_chain, k_ch1, k_ch2, e_ite, k_ite, e_call, k_call1, k_call2, e_blt, k_blt, e_meth, k_meth1, k_meth2, e_tup, e_lst, e_dct0, e_dcd, e_idx, k_idx1, k_idx2, e_slc, k_slc1, k_slc2, k_slc3, o_none, o_some, k_o, e_new, k_new, e_lc, k_lc, lc_g, es_nil, es_cons, k_es1, k_es2, t_nil, t_cons, k_t, i_val, i_range, i_enum, k_ent, k_enl, enumD, s_par, k_par, setAll, k_body, k_turn, k_ivl, k_ivt, k_ivs,
      g_name, g_tup, g_sub, k_sub1, gs_nil, gs_cons, k_gs, s_asg, k_asg1, k_nx, s_expr, k_expr, s_ret, k_ret, s_iff, k_if, s_for, k_for, s_aug, s_pass, ss_nil, ss_cons, k_ss, bind_ok, bind_exc, bind_stuck, go_ok, go_exc, seq_nx, seq_rt, seq_exc, turn_nx, turn_rt, turn_exc, calm_ok', end_d, end_nx, end_exc, tru_bl, give, give_b, ders, der, arrD, List.getElem?_cons_zero, List.getElem?_cons_succ, List.set_cons_zero, List.set_cons_succ, if_true, if_false, Bool.false_eq_true, Bool.not_true, Bool.not_false, List.take_length,
      e_isi, k_isi, e_tin, k_tinP, k_tinN, e_tget, k_tget, g_star, i_zip, is_int_non, is_int_bl, is_int_int, is_int_str, is_int_tup, is_int_lst, is_int_dct, is_str_non, is_str_bl, is_str_int, is_str_str, is_str_tup, is_str_lst, is_str_dct, is_bool_non, is_bool_bl, is_bool_int, is_bool_str, is_bool_tup, is_bool_lst, is_bool_dct, is_tuple_non, is_tuple_bl, is_tuple_int, is_tuple_str, is_tuple_tup, is_tuple_lst, is_tuple_dct, is_list_non, is_list_bl, is_list_int, is_list_str, is_list_tup, is_list_lst, is_list_dct, is_dict_non, is_dict_bl, is_dict_int, is_dict_str, is_dict_tup, is_dict_lst, is_dict_dct,
      bfD, len_s, len_l, len_t, c_eq_ii, c_ne_ii, c_lt_ii, c_le_ii, c_gt_ii, c_ge_ii, c_is_non, c_isn_non, noneD, Int.cast_ofNat_Int, Int.reduceEq, Int.reduceLT, Int.reduceLE, decide_true, decide_false, kTup, kLst, pures, sizeLine_eq, Nat.reduceLeDiff, g_tupq, idx_q0, idx_q1, is_tuple_q, len_q, k_ivq, m1, m3, e]
theorem below_ok {n m : Nat} {a b : Rat} (ha : Fit n a) (hb : Fit m b) (h9 : n + m < 9000) : Fn t (k + 4) 11 [.d (qD a), .d (qD b)] st = .ok (.d (.bl (decide (a < b)))) st := by
  rw [fn_at T rfl]
  have m1 : binD .Mult (.int a.num) (.int b.den) = some (.int (a.num * b.den)) := mulI ha.1 (b := m) hb.2 (by omega)
  have m2 : binD .Mult (.int b.num) (.int a.den) = some (.int (b.num * a.den)) := mulI hb.1 (b := n) ha.2 (by omega)
  simp only [runF, startE, I11, List.map_cons, List.map_nil, List.length_cons, List.length_nil, List.replicate, List.cons_append, List.nil_append, List.append_nil, Nat.reduceAdd, Nat.reduceSub, Nat.zero_add,
      e_var, e_con, e_bin, k_bin1, k_bin2, e_neg, k_neg, e_not, k_not, e_and, k_and, e_or, k_or, e_cmp, k_cmp1, k_cmp2, e_chain, k_ch1, k_ch2, e_ite, k_ite, e_call, k_call1, k_call2, e_blt, k_blt, e_meth, k_meth1, k_meth2, e_tup, e_lst, e_dct0, e_dcd, e_idx, k_idx1, k_idx2, e_slc, k_slc1, k_slc2, k_slc3, o_none, o_some, k_o, e_new, k_new, e_lc, k_lc, lc_g, es_nil, es_cons, k_es1, k_es2, t_nil, t_cons, k_t, i_val, i_range, i_enum, k_ent, k_enl, enumD, s_par, k_par, setAll, k_body, k_turn, k_ivl, k_ivt, k_ivs,
      g_name, g_tup, g_sub, k_sub1, gs_nil, gs_cons, k_gs, s_asg, k_asg1, k_nx, s_expr, k_expr, s_ret, k_ret, s_iff, k_if, s_for, k_for, s_aug, s_pass, ss_nil, ss_cons, k_ss, bind_ok, bind_exc, bind_stuck, go_ok, go_exc, seq_nx, seq_rt, seq_exc, turn_nx, turn_rt, turn_exc, calm_ok', end_d, end_nx, end_exc, tru_bl, give, give_b, ders, der, arrD, List.getElem?_cons_zero, List.getElem?_cons_succ, List.set_cons_zero, List.set_cons_succ, if_true, if_false, Bool.false_eq_true, Bool.not_true, Bool.not_false, List.take_length,
      e_isi, k_isi, e_tin, k_tinP, k_tinN, e_tget, k_tget, g_star, i_zip, is_int_non, is_int_bl, is_int_int, is_int_str, is_int_tup, is_int_lst, is_int_dct, is_str_non, is_str_bl, is_str_int, is_str_str, is_str_tup, is_str_lst, is_str_dct, is_bool_non, is_bool_bl, is_bool_int, is_bool_str, is_bool_tup, is_bool_lst, is_bool_dct, is_tuple_non, is_tuple_bl, is_tuple_int, is_tuple_str, is_tuple_tup, is_tuple_lst, is_tuple_dct, is_list_non, is_list_bl, is_list_int, is_list_str, is_list_tup, is_list_lst, is_list_dct, is_dict_non, is_dict_bl, is_dict_int, is_dict_str, is_dict_tup, is_dict_lst, is_dict_dct,
      bfD, len_s, len_l, len_t, c_eq_ii, c_ne_ii, c_lt_ii, c_le_ii, c_gt_ii, c_ge_ii, c_is_non, c_isn_non, noneD, Int.cast_ofNat_Int, Int.reduceEq, Int.reduceLT, Int.reduceLE, decide_true, decide_false, kTup, kLst, pures, sizeLine_eq, Nat.reduceLeDiff, g_tupq, idx_q0, idx_q1, is_tuple_q, len_q, k_ivq, check_both_ok T k st ha hb h9]
  simp only [List.map_cons, List.map_nil, List.length_cons, List.length_nil, List.replicate, List.cons_append, List.nil_append, List.append_nil, Nat.reduceAdd, Nat.reduceSub, Nat.zero_add,
      e_var, e_con, e_bin, k_bin1, k_bin2, e_neg, k_neg, e_not, k_not, e_and, k_and, e_or, k_or, e_cmp, k_cmp1, k_cmp2, e_chain, k_ch1, k_ch2, e_ite, k_ite, e_call, k_call1, k_call2, e_blt, k_blt, e_meth, k_meth1, k_meth2, e_tup, e_lst, e_dct0, e_dcd, e_idx, k_idx1, k_idx2, e_slc, k_slc1, k_slc2, k_slc3, o_none, o_some, k_o, e_new, k_new, e_lc, k_lc, lc_g, es_nil, es_cons, k_es1, k_es2, t_nil, t_cons, k_t, i_val, i_range, i_enum, k_ent, k_enl, enumD, s_par, k_par, setAll, k_body, k_turn, k_ivl, k_ivt, k_ivs,
      g_name, g_tup, g_sub, k_sub1, gs_nil, gs_cons, k_gs, s_asg, k_asg1, k_nx, s_expr, k_expr, s_ret, k_ret, s_iff, k_if, s_for, k_for, s_aug, s_pass, ss_nil, ss_cons, k_ss, bind_ok, bind_exc, bind_stuck, go_ok, go_exc, seq_nx, seq_rt, seq_exc, turn_nx, turn_rt, turn_exc, calm_ok', end_d, end_nx, end_exc, tru_bl, give, give_b, ders, der, arrD, List.getElem?_cons_zero, List.getElem?_cons_succ, List.set_cons_zero, List.set_cons_succ, if_true, if_false, Bool.false_eq_true, Bool.not_true, Bool.not_false, List.take_length,
      e_isi, k_isi, e_tin, k_tinP, k_tinN, e_tget, k_tget, g_star, i_zip, is_int_non, is_int_bl, is_int_int, is_int_str, is_int_tup, is_int_lst, is_int_dct, is_str_non, is_str_bl, is_str_int, is_str_str, is_str_tup, is_str_lst, is_str_dct, is_bool_non, is_bool_bl, is_bool_int, is_bool_str, is_bool_tup, is_bool_lst, is_bool_dct, is_tuple_non, is_tuple_bl, is_tuple_int, is_tuple_str, is_tuple_tup, is_tuple_lst, is_tuple_dct, is_list_non, is_list_bl, is_list_int, is_list_str, is_list_tup, is_list_lst, is_list_dct, is_dict_non, is_dict_bl, is_dict_int, is_dict_str, is_dict_tup, is_dict_lst, is_dict_dct,
      bfD, len_s, len_l, len_t, c_eq_ii, c_ne_ii, c_lt_ii, c_le_ii, c_gt_ii, c_ge_ii, c_is_non, c_isn_non, noneD, Int.cast_ofNat_Int, Int.reduceEq, Int.reduceLT, Int.reduceLE, decide_true, decide_false, kTup, kLst, pures, sizeLine_eq, Nat.reduceLeDiff, g_tupq, idx_q0, idx_q1, is_tuple_q, len_q, k_ivq, m1, m2, ← Rat.lt_iff]
/-- the laws' own: lowest terms -/
theorem low_ok (top : Int) (bottom : Nat) {n : Nat} (hb : bottom ≠ 0) (hn : bottom < 2 ^ n) (h9 : n < 9000) : Fn t (k + 1) 15 [.d (.int top), .d (.int bottom)] st = .ok (.d (qD (mkRat top bottom))) st := by
  rw [fn_at T rfl]
  have hg0 : 0 < Nat.gcd top.natAbs bottom := Nat.gcd_pos_of_pos_right _ (by omega)
  have hg1 : Nat.gcd top.natAbs bottom ≤ bottom := Nat.gcd_le_right _ (by omega)
  have e1 := Rat.num_mkRat top bottom
  have e2 := Rat.den_mkRat top bottom
  rw [if_neg hb, Nat.gcd_comm] at e1 e2
  simp only [runF, startE, I15, List.map_cons, List.map_nil, List.length_cons, List.length_nil, List.replicate, List.cons_append, List.nil_append, List.append_nil, Nat.reduceAdd, Nat.reduceSub, Nat.zero_add,
      e_var, e_con, e_bin, k_bin1, k_bin2, e_neg, k_neg, e_not, k_not, e_and, k_and, e_or, k_or, e_cmp, k_cmp1, k_cmp2, e_chain, k_ch1, k_ch2, e_ite, k_ite, e_call, k_call1, k_call2, e_blt, k_blt, e_meth, k_meth1, k_meth2, e_tup, e_lst, e_dct0, e_dcd, e_idx, k_idx1, k_idx2, e_slc, k_slc1, k_slc2, k_slc3, o_none, o_some, k_o, e_new, k_new, e_lc, k_lc, lc_g, es_nil, es_cons, k_es1, k_es2, t_nil, t_cons, k_t, i_val, i_range, i_enum, k_ent, k_enl, enumD, s_par, k_par, setAll, k_body, k_turn, k_ivl, k_ivt, k_ivs,
      g_name, g_tup, g_sub, k_sub1, gs_nil, gs_cons, k_gs, s_asg, k_asg1, k_nx, s_expr, k_expr, s_ret, k_ret, s_iff, k_if, s_for, k_for, s_aug, s_pass, ss_nil, ss_cons, k_ss, bind_ok, bind_exc, bind_stuck, go_ok, go_exc, seq_nx, seq_rt, seq_exc, turn_nx, turn_rt, turn_exc, calm_ok', end_d, end_nx, end_exc, tru_bl, give, give_b, ders, der, arrD, List.getElem?_cons_zero, List.getElem?_cons_succ, List.set_cons_zero, List.set_cons_succ, if_true, if_false, Bool.false_eq_true, Bool.not_true, Bool.not_false, List.take_length,
      e_isi, k_isi, e_tin, k_tinP, k_tinN, e_tget, k_tget, g_star, i_zip, is_int_non, is_int_bl, is_int_int, is_int_str, is_int_tup, is_int_lst, is_int_dct, is_str_non, is_str_bl, is_str_int, is_str_str, is_str_tup, is_str_lst, is_str_dct, is_bool_non, is_bool_bl, is_bool_int, is_bool_str, is_bool_tup, is_bool_lst, is_bool_dct, is_tuple_non, is_tuple_bl, is_tuple_int, is_tuple_str, is_tuple_tup, is_tuple_lst, is_tuple_dct, is_list_non, is_list_bl, is_list_int, is_list_str, is_list_tup, is_list_lst, is_list_dct, is_dict_non, is_dict_bl, is_dict_int, is_dict_str, is_dict_tup, is_dict_lst, is_dict_dct,
      bfD, len_s, len_l, len_t, c_eq_ii, c_ne_ii, c_lt_ii, c_le_ii, c_gt_ii, c_ge_ii, c_is_non, c_isn_non, noneD, Int.cast_ofNat_Int, Int.reduceEq, Int.reduceLT, Int.reduceLE, decide_true, decide_false, kTup, kLst, pures, sizeLine_eq, Nat.reduceLeDiff, g_tupq, idx_q0, idx_q1, is_tuple_q, len_q, k_ivq, absI]
  rw [s_while]
  have := euclid (c := whC (Fn t k) I15c1) (b := evSs (Fn t k) I15b1) (mk := fun x y => [some (.d (.int top)), some (.d (.int bottom)), some (.d (.int x)), some (.d (.int y))]) (st := st)
    (fun x => by simp only [wh_c, I15c1, List.map_cons, List.map_nil, List.length_cons, List.length_nil, List.replicate, List.cons_append, List.nil_append, List.append_nil, Nat.reduceAdd, Nat.reduceSub, Nat.zero_add,
      e_var, e_con, e_bin, k_bin1, k_bin2, e_neg, k_neg, e_not, k_not, e_and, k_and, e_or, k_or, e_cmp, k_cmp1, k_cmp2, e_chain, k_ch1, k_ch2, e_ite, k_ite, e_call, k_call1, k_call2, e_blt, k_blt, e_meth, k_meth1, k_meth2, e_tup, e_lst, e_dct0, e_dcd, e_idx, k_idx1, k_idx2, e_slc, k_slc1, k_slc2, k_slc3, o_none, o_some, k_o, e_new, k_new, e_lc, k_lc, lc_g, es_nil, es_cons, k_es1, k_es2, t_nil, t_cons, k_t, i_val, i_range, i_enum, k_ent, k_enl, enumD, s_par, k_par, setAll, k_body, k_turn, k_ivl, k_ivt, k_ivs,
      g_name, g_tup, g_sub, k_sub1, gs_nil, gs_cons, k_gs, s_asg, k_asg1, k_nx, s_expr, k_expr, s_ret, k_ret, s_iff, k_if, s_for, k_for, s_aug, s_pass, ss_nil, ss_cons, k_ss, bind_ok, bind_exc, bind_stuck, go_ok, go_exc, seq_nx, seq_rt, seq_exc, turn_nx, turn_rt, turn_exc, calm_ok', end_d, end_nx, end_exc, tru_bl, give, give_b, ders, der, arrD, List.getElem?_cons_zero, List.getElem?_cons_succ, List.set_cons_zero, List.set_cons_succ, if_true, if_false, Bool.false_eq_true, Bool.not_true, Bool.not_false, List.take_length,
      e_isi, k_isi, e_tin, k_tinP, k_tinN, e_tget, k_tget, g_star, i_zip, is_int_non, is_int_bl, is_int_int, is_int_str, is_int_tup, is_int_lst, is_int_dct, is_str_non, is_str_bl, is_str_int, is_str_str, is_str_tup, is_str_lst, is_str_dct, is_bool_non, is_bool_bl, is_bool_int, is_bool_str, is_bool_tup, is_bool_lst, is_bool_dct, is_tuple_non, is_tuple_bl, is_tuple_int, is_tuple_str, is_tuple_tup, is_tuple_lst, is_tuple_dct, is_list_non, is_list_bl, is_list_int, is_list_str, is_list_tup, is_list_lst, is_list_dct, is_dict_non, is_dict_bl, is_dict_int, is_dict_str, is_dict_tup, is_dict_lst, is_dict_dct,
      bfD, len_s, len_l, len_t, c_eq_ii, c_ne_ii, c_lt_ii, c_le_ii, c_gt_ii, c_ge_ii, c_is_non, c_isn_non, noneD, Int.cast_ofNat_Int, Int.reduceEq, Int.reduceLT, Int.reduceLE, decide_true, decide_false, kTup, kLst, pures, sizeLine_eq, Nat.reduceLeDiff, g_tupq, idx_q0, idx_q1, is_tuple_q, len_q, k_ivq, Int.lt_irrefl]) (fun x y h => by
      have : (0 : Int) < y := by omega
      simp only [wh_c, I15c1, List.map_cons, List.map_nil, List.length_cons, List.length_nil, List.replicate, List.cons_append, List.nil_append, List.append_nil, Nat.reduceAdd, Nat.reduceSub, Nat.zero_add,
      e_var, e_con, e_bin, k_bin1, k_bin2, e_neg, k_neg, e_not, k_not, e_and, k_and, e_or, k_or, e_cmp, k_cmp1, k_cmp2, e_chain, k_ch1, k_ch2, e_ite, k_ite, e_call, k_call1, k_call2, e_blt, k_blt, e_meth, k_meth1, k_meth2, e_tup, e_lst, e_dct0, e_dcd, e_idx, k_idx1, k_idx2, e_slc, k_slc1, k_slc2, k_slc3, o_none, o_some, k_o, e_new, k_new, e_lc, k_lc, lc_g, es_nil, es_cons, k_es1, k_es2, t_nil, t_cons, k_t, i_val, i_range, i_enum, k_ent, k_enl, enumD, s_par, k_par, setAll, k_body, k_turn, k_ivl, k_ivt, k_ivs,
      g_name, g_tup, g_sub, k_sub1, gs_nil, gs_cons, k_gs, s_asg, k_asg1, k_nx, s_expr, k_expr, s_ret, k_ret, s_iff, k_if, s_for, k_for, s_aug, s_pass, ss_nil, ss_cons, k_ss, bind_ok, bind_exc, bind_stuck, go_ok, go_exc, seq_nx, seq_rt, seq_exc, turn_nx, turn_rt, turn_exc, calm_ok', end_d, end_nx, end_exc, tru_bl, give, give_b, ders, der, arrD, List.getElem?_cons_zero, List.getElem?_cons_succ, List.set_cons_zero, List.set_cons_succ, if_true, if_false, Bool.false_eq_true, Bool.not_true, Bool.not_false, List.take_length,
      e_isi, k_isi, e_tin, k_tinP, k_tinN, e_tget, k_tget, g_star, i_zip, is_int_non, is_int_bl, is_int_int, is_int_str, is_int_tup, is_int_lst, is_int_dct, is_str_non, is_str_bl, is_str_int, is_str_str, is_str_tup, is_str_lst, is_str_dct, is_bool_non, is_bool_bl, is_bool_int, is_bool_str, is_bool_tup, is_bool_lst, is_bool_dct, is_tuple_non, is_tuple_bl, is_tuple_int, is_tuple_str, is_tuple_tup, is_tuple_lst, is_tuple_dct, is_list_non, is_list_bl, is_list_int, is_list_str, is_list_tup, is_list_lst, is_list_dct, is_dict_non, is_dict_bl, is_dict_int, is_dict_str, is_dict_tup, is_dict_lst, is_dict_dct,
      bfD, len_s, len_l, len_t, c_eq_ii, c_ne_ii, c_lt_ii, c_le_ii, c_gt_ii, c_ge_ii, c_is_non, c_isn_non, noneD, Int.cast_ofNat_Int, Int.reduceEq, Int.reduceLT, Int.reduceLE, decide_true, decide_false, kTup, kLst, pures, sizeLine_eq, Nat.reduceLeDiff, g_tupq, idx_q0, idx_q1, is_tuple_q, len_q, k_ivq, this]) (fun x y h => by simp only [I15b1, List.map_cons, List.map_nil, List.length_cons, List.length_nil, List.replicate, List.cons_append, List.nil_append, List.append_nil, Nat.reduceAdd, Nat.reduceSub, Nat.zero_add,
      e_var, e_con, e_bin, k_bin1, k_bin2, e_neg, k_neg, e_not, k_not, e_and, k_and, e_or, k_or, e_cmp, k_cmp1, k_cmp2, e_chain, k_ch1, k_ch2, e_ite, k_ite, e_call, k_call1, k_call2, e_blt, k_blt, e_meth, k_meth1, k_meth2, e_tup, e_lst, e_dct0, e_dcd, e_idx, k_idx1, k_idx2, e_slc, k_slc1, k_slc2, k_slc3, o_none, o_some, k_o, e_new, k_new, e_lc, k_lc, lc_g, es_nil, es_cons, k_es1, k_es2, t_nil, t_cons, k_t, i_val, i_range, i_enum, k_ent, k_enl, enumD, s_par, k_par, setAll, k_body, k_turn, k_ivl, k_ivt, k_ivs,
      g_name, g_tup, g_sub, k_sub1, gs_nil, gs_cons, k_gs, s_asg, k_asg1, k_nx, s_expr, k_expr, s_ret, k_ret, s_iff, k_if, s_for, k_for, s_aug, s_pass, ss_nil, ss_cons, k_ss, bind_ok, bind_exc, bind_stuck, go_ok, go_exc, seq_nx, seq_rt, seq_exc, turn_nx, turn_rt, turn_exc, calm_ok', end_d, end_nx, end_exc, tru_bl, give, give_b, ders, der, arrD, List.getElem?_cons_zero, List.getElem?_cons_succ, List.set_cons_zero, List.set_cons_succ, if_true, if_false, Bool.false_eq_true, Bool.not_true, Bool.not_false, List.take_length,
      e_isi, k_isi, e_tin, k_tinP, k_tinN, e_tget, k_tget, g_star, i_zip, is_int_non, is_int_bl, is_int_int, is_int_str, is_int_tup, is_int_lst, is_int_dct, is_str_non, is_str_bl, is_str_int, is_str_str, is_str_tup, is_str_lst, is_str_dct, is_bool_non, is_bool_bl, is_bool_int, is_bool_str, is_bool_tup, is_bool_lst, is_bool_dct, is_tuple_non, is_tuple_bl, is_tuple_int, is_tuple_str, is_tuple_tup, is_tuple_lst, is_tuple_dct, is_list_non, is_list_bl, is_list_int, is_list_str, is_list_tup, is_list_lst, is_list_dct, is_dict_non, is_dict_bl, is_dict_int, is_dict_str, is_dict_tup, is_dict_lst, is_dict_dct,
      bfD, len_s, len_l, len_t, c_eq_ii, c_ne_ii, c_lt_ii, c_le_ii, c_gt_ii, c_ge_ii, c_is_non, c_isn_non, noneD, Int.cast_ofNat_Int, Int.reduceEq, Int.reduceLT, Int.reduceLE, decide_true, decide_false, kTup, kLst, pures, sizeLine_eq, Nat.reduceLeDiff, g_tupq, idx_q0, idx_q1, is_tuple_q, len_q, k_ivq, modN h]) 100000000 top.natAbs bottom WF (szB hn h9) (by unfold WF; omega)
  rw [this]
  have hgl : Nat.gcd top.natAbs bottom < 2 ^ n := by omega
  have f1 : binD .FloorDiv (.int top) (.int (Nat.gcd top.natAbs bottom)) = some (.int (mkRat top bottom).num) := by
    rw [fdiv_pos (j := (Nat.gcd top.natAbs bottom : Nat)) (b := n) (by omega) hgl h9, e1]
  have f2 : binD .FloorDiv (.int bottom) (.int (Nat.gcd top.natAbs bottom)) = some (.int (mkRat top bottom).den) := by
    rw [fdiv_pos (j := (Nat.gcd top.natAbs bottom : Nat)) (b := n) (by omega) hgl h9, e2, Int.natCast_ediv]
  simp only [List.map_cons, List.map_nil, List.length_cons, List.length_nil, List.replicate, List.cons_append, List.nil_append, List.append_nil, Nat.reduceAdd, Nat.reduceSub, Nat.zero_add,
      e_var, e_con, e_bin, k_bin1, k_bin2, e_neg, k_neg, e_not, k_not, e_and, k_and, e_or, k_or, e_cmp, k_cmp1, k_cmp2, e_chain, k_ch1, k_ch2, e_ite, k_ite, e_call, k_call1, k_call2, e_blt, k_blt, e_meth, k_meth1, k_meth2, e_tup, e_lst, e_dct0, e_dcd, e_idx, k_idx1, k_idx2, e_slc, k_slc1, k_slc2, k_slc3, o_none, o_some, k_o, e_new, k_new, e_lc, k_lc, lc_g, es_nil, es_cons, k_es1, k_es2, t_nil, t_cons, k_t, i_val, i_range, i_enum, k_ent, k_enl, enumD, s_par, k_par, setAll, k_body, k_turn, k_ivl, k_ivt, k_ivs,
      g_name, g_tup, g_sub, k_sub1, gs_nil, gs_cons, k_gs, s_asg, k_asg1, k_nx, s_expr, k_expr, s_ret, k_ret, s_iff, k_if, s_for, k_for, s_aug, s_pass, ss_nil, ss_cons, k_ss, bind_ok, bind_exc, bind_stuck, go_ok, go_exc, seq_nx, seq_rt, seq_exc, turn_nx, turn_rt, turn_exc, calm_ok', end_d, end_nx, end_exc, tru_bl, give, give_b, ders, der, arrD, List.getElem?_cons_zero, List.getElem?_cons_succ, List.set_cons_zero, List.set_cons_succ, if_true, if_false, Bool.false_eq_true, Bool.not_true, Bool.not_false, List.take_length,
      e_isi, k_isi, e_tin, k_tinP, k_tinN, e_tget, k_tget, g_star, i_zip, is_int_non, is_int_bl, is_int_int, is_int_str, is_int_tup, is_int_lst, is_int_dct, is_str_non, is_str_bl, is_str_int, is_str_str, is_str_tup, is_str_lst, is_str_dct, is_bool_non, is_bool_bl, is_bool_int, is_bool_str, is_bool_tup, is_bool_lst, is_bool_dct, is_tuple_non, is_tuple_bl, is_tuple_int, is_tuple_str, is_tuple_tup, is_tuple_lst, is_tuple_dct, is_list_non, is_list_bl, is_list_int, is_list_str, is_list_tup, is_list_lst, is_list_dct, is_dict_non, is_dict_bl, is_dict_int, is_dict_str, is_dict_tup, is_dict_lst, is_dict_dct,
      bfD, len_s, len_l, len_t, c_eq_ii, c_ne_ii, c_lt_ii, c_le_ii, c_gt_ii, c_ge_ii, c_is_non, c_isn_non, noneD, Int.cast_ofNat_Int, Int.reduceEq, Int.reduceLT, Int.reduceLE, decide_true, decide_false, kTup, kLst, pures, sizeLine_eq, Nat.reduceLeDiff, g_tupq, idx_q0, idx_q1, is_tuple_q, len_q, k_ivq, f1, f2, qD]
end TW
namespace TW
open PySem PySem.Spec PyProof.Rows L2
/-! ### the pool that every law draws by -/
def PoolO (p : MO) : Prop := ∃ s g c : Int, p = .lst [.int s, .int g, .int c] ∧ 0 ≤ s ∧ s < 2147483423 ∧ 0 ≤ g ∧ 0 ≤ c
def PoolAt (n : Nat) (st : Sto) : Prop := ∃ p, st[n]? = some p ∧ PoolO p
/-- only the pool at n was drawn from -/
def Drawn (n : Nat) (st st' : Sto) : Prop := ∃ p, PoolO p ∧ st' = st.set n p
theorem PoolAt.lt {n : Nat} {st : Sto} (h : PoolAt n st) : n < st.length := by
  obtain ⟨p, h, _⟩ := h
  exact (List.getElem?_eq_some_iff.mp h).1
theorem PoolAt.refl {n : Nat} {st : Sto} (h : PoolAt n st) : Drawn n st st := by
  obtain ⟨p, h, hp⟩ := h
  refine ⟨p, hp, ?_⟩
  obtain ⟨h1, h2⟩ := List.getElem?_eq_some_iff.mp h
  subst h2
  exact (List.set_getElem_self h1).symm
theorem Drawn.pool {n : Nat} {st st' : Sto} (d : Drawn n st st') (h : PoolAt n st) : PoolAt n st' := by
  obtain ⟨p, hp, rfl⟩ := d
  exact ⟨p, by rw [List.getElem?_set_self h.lt], hp⟩
theorem Drawn.trans {n : Nat} {a b c : Sto} (d : Drawn n a b) (e : Drawn n b c) : Drawn n a c := by
  obtain ⟨p, hp, rfl⟩ := d
  obtain ⟨q, hq, rfl⟩ := e
  exact ⟨q, hq, by rw [List.set_set]⟩
theorem Drawn.len {n : Nat} {a b : Sto} (d : Drawn n a b) : b.length = a.length := by
  obtain ⟨p, hp, rfl⟩ := d
  simp
theorem Drawn.other {n m : Nat} {a b : Sto} (d : Drawn n a b) (h : m ≠ n) : b[m]? = a[m]? := by
  obtain ⟨p, hp, rfl⟩ := d
  rw [List.getElem?_set_ne (Ne.symm h)]
theorem PoolAt.app {n : Nat} {st : Sto} (h : PoolAt n st) (l : Sto) : PoolAt n (st ++ l) := by
  have := h.lt
  obtain ⟨p, h, hp⟩ := h
  exact ⟨p, by rw [List.getElem?_append_left this, h], hp⟩
theorem Drawn.app {n : Nat} {st l st' : Sto} (d : Drawn n (st ++ l) st') (h : n < st.length) : ∃ st2, st' = st2 ++ l ∧ Drawn n st st2 := by
  obtain ⟨p, hp, rfl⟩ := d
  exact ⟨st.set n p, by rw [List.set_append_left _ _ h], p, hp, rfl⟩
theorem Drawn.take {n : Nat} {a b : Sto} (d : Drawn n a b) : b.take a.length = b := List.take_of_length_le (by rw [d.len]; exact Nat.le_refl _)
theorem end_ref (st : Sto) (o : MO) (m : Nat) (h : m = st.length) : endF m (.rt (.ref m) (st ++ [o])) = .ok (.ref m) (st ++ [o]) := by
  subst h
  simp only [endF, Nat.lt_irrefl, if_false]
theorem getL (n : Nat) (xs : List D) (y : D) (st : Sto) (h : st[n]? = some (.lst xs)) : kIdx2 (.ref n) (.d y) st = give (idxD (.lst xs) y) st := k_idx2r n xs y st h
theorem dmI {i j : Int} {b : Nat} (h : 0 < j) (h2 : j.natAbs < 2 ^ b) (hb : b < 9000) : dmD [.int i, .int j] = some (.tup [.int (i / j), .int (i % j)]) := by
  have := log2_le h2
  simp only [dmD]
  rw [if_pos ⟨h, by omega⟩]
variable {t : Tbl} (T : Sub TC t) (k : Nat) {st : Sto}
section
variable {n : Nat} (hn : n < st.length) (s g c : Int)
include hn
theorem pl_at : (st.set n (.lst [.int s, .int g, .int c]))[n]? = some (.lst [.int s, .int g, .int c]) := by rw [List.getElem?_set_self hn]
theorem pl_get0 : kIdx2 (.ref n) (.d (.int 0)) (st.set n (.lst [.int s, .int g, .int c])) = .ok (.d (.int s)) (st.set n (.lst [.int s, .int g, .int c])) := by rw [k_idx2r _ _ _ _ (pl_at hn s g c)]; rfl
theorem pl_get1 : kIdx2 (.ref n) (.d (.int 1)) (st.set n (.lst [.int s, .int g, .int c])) = .ok (.d (.int g)) (st.set n (.lst [.int s, .int g, .int c])) := by rw [k_idx2r _ _ _ _ (pl_at hn s g c)]; rfl
theorem pl_get2 : kIdx2 (.ref n) (.d (.int 2)) (st.set n (.lst [.int s, .int g, .int c])) = .ok (.d (.int c)) (st.set n (.lst [.int s, .int g, .int c])) := by rw [k_idx2r _ _ _ _ (pl_at hn s g c)]; rfl
theorem pl_put0 (v : Int) (en : En) : kSub2 (.d (.int v)) en (.ref n) (.d (.int 0)) (st.set n (.lst [.int s, .int g, .int c])) = .ok en (st.set n (.lst [.int v, .int g, .int c])) := by rw [k_sub2 _ _ _ _ _ _ 0 (pl_at hn s g c) rfl, List.set_set]; rfl
theorem pl_put1 (v : Int) (en : En) : kSub2 (.d (.int v)) en (.ref n) (.d (.int 1)) (st.set n (.lst [.int s, .int g, .int c])) = .ok en (st.set n (.lst [.int s, .int v, .int c])) := by rw [k_sub2 _ _ _ _ _ _ 1 (pl_at hn s g c) rfl, List.set_set]; rfl
theorem pl_put2 (v : Int) (en : En) : kSub2 (.d (.int v)) en (.ref n) (.d (.int 2)) (st.set n (.lst [.int s, .int g, .int c])) = .ok en (st.set n (.lst [.int s, .int g, .int v])) := by rw [k_sub2 _ _ _ _ _ _ 2 (pl_at hn s g c) rfl, List.set_set]; rfl
end
theorem take_set (st : Sto) (n : Nat) (o : MO) : (st.set n o).take st.length = st.set n o := List.take_of_length_le (by simp)
include T
theorem take_ok {n b : Nat} {many : Int} (P : PoolAt n st) (hm : 0 < many) (hm2 : many.natAbs < 2 ^ b) (hb : b < 9000) :
    ∃ (r : Nat) (st' : Sto), Fn t (k + 1) 14 [.ref n, .d (.int many)] st = .ok (.d (.int r)) st' ∧ Drawn n st st' ∧ (r : Int) < many := by
  have hn := P.lt
  obtain ⟨p, e, s, g, c, rfl, p1, p2, p3, p4⟩ := P
  obtain ⟨_, e2⟩ := List.getElem?_eq_some_iff.mp e
  have e3 : st = st.set n (.lst [.int s, .int g, .int c]) := by rw [← e2]; exact (List.set_getElem_self _).symm
  rw [fn_at T rfl]
  have e1 : binD .Mult (.int s) (.int (s % 45013 + 32017)) = some (.int (s * (s % 45013 + 32017))) := mulL (by omega)
  have e2 : binD .Mult (.int 90023) (.int (c + 1)) = some (.int (90023 * (c + 1))) := mulL (by decide)
  rw [e3]
  simp only [runF, startE, I14, List.map_cons, List.map_nil, List.length_cons, List.length_nil, List.replicate, List.cons_append, List.nil_append, List.append_nil, Nat.reduceAdd, Nat.reduceSub, Nat.zero_add,
      e_var, e_con, e_bin, k_bin1, k_bin2, e_neg, k_neg, e_not, k_not, e_and, k_and, e_or, k_or, e_cmp, k_cmp1, k_cmp2, e_chain, k_ch1, k_ch2, e_ite, k_ite, e_call, k_call1, k_call2, e_blt, k_blt, e_meth, k_meth1, k_meth2, e_tup, e_lst, e_dct0, e_dcd, e_idx, k_idx1, k_idx2, e_slc, k_slc1, k_slc2, k_slc3, o_none, o_some, k_o, e_new, k_new, e_lc, k_lc, lc_g, es_nil, es_cons, k_es1, k_es2, t_nil, t_cons, k_t, i_val, i_range, i_enum, k_ent, k_enl, enumD, s_par, k_par, setAll, k_body, k_turn, k_ivl, k_ivt, k_ivs,
      g_name, g_tup, g_sub, k_sub1, gs_nil, gs_cons, k_gs, s_asg, k_asg1, k_nx, s_expr, k_expr, s_ret, k_ret, s_iff, k_if, s_for, k_for, s_aug, s_pass, ss_nil, ss_cons, k_ss, bind_ok, bind_exc, bind_stuck, go_ok, go_exc, seq_nx, seq_rt, seq_exc, turn_nx, turn_rt, turn_exc, calm_ok', end_d, end_nx, end_exc, tru_bl, give, give_b, ders, der, arrD, List.getElem?_cons_zero, List.getElem?_cons_succ, List.set_cons_zero, List.set_cons_succ, if_true, if_false, Bool.false_eq_true, Bool.not_true, Bool.not_false, List.take_length,
      e_isi, k_isi, e_tin, k_tinP, k_tinN, e_tget, k_tget, g_star, i_zip, is_int_non, is_int_bl, is_int_int, is_int_str, is_int_tup, is_int_lst, is_int_dct, is_str_non, is_str_bl, is_str_int, is_str_str, is_str_tup, is_str_lst, is_str_dct, is_bool_non, is_bool_bl, is_bool_int, is_bool_str, is_bool_tup, is_bool_lst, is_bool_dct, is_tuple_non, is_tuple_bl, is_tuple_int, is_tuple_str, is_tuple_tup, is_tuple_lst, is_tuple_dct, is_list_non, is_list_bl, is_list_int, is_list_str, is_list_tup, is_list_lst, is_list_dct, is_dict_non, is_dict_bl, is_dict_int, is_dict_str, is_dict_tup, is_dict_lst, is_dict_dct,
      bfD, len_s, len_l, len_t, c_eq_ii, c_ne_ii, c_lt_ii, c_le_ii, c_gt_ii, c_ge_ii, c_is_non, c_isn_non, noneD, Int.cast_ofNat_Int, Int.reduceEq, Int.reduceLT, Int.reduceLE, decide_true, decide_false, kTup, kLst, pures, sizeLine_eq, Nat.reduceLeDiff, g_tupq, idx_q0, idx_q1, is_tuple_q, len_q, k_ivq, pl_get0 hn, pl_get1 hn, pl_get2 hn, pl_put0 hn, pl_put1 hn, pl_put2 hn, mod_pos (show (0 : Int) < 45013 by decide), mod_pos (show (0 : Int) < 2147483423 by decide), addI, e1, e2, List.length_set]
  have q1 := Int.emod_nonneg (s * (s % 45013 + 32017) + 90023 * (c + 1)) (show (2147483423 : Int) ≠ 0 by decide)
  have q2 := Int.emod_lt_of_pos (s * (s % 45013 + 32017) + 90023 * (c + 1)) (show (0 : Int) < 2147483423 by decide)
  generalize (s * (s % 45013 + 32017) + 90023 * (c + 1)) % 2147483423 = s' at q1 q2 ⊢
  by_cases hg : 0 < g
  · simp only [hg, List.map_cons, List.map_nil, List.length_cons, List.length_nil, List.replicate, List.cons_append, List.nil_append, List.append_nil, Nat.reduceAdd, Nat.reduceSub, Nat.zero_add,
      e_var, e_con, e_bin, k_bin1, k_bin2, e_neg, k_neg, e_not, k_not, e_and, k_and, e_or, k_or, e_cmp, k_cmp1, k_cmp2, e_chain, k_ch1, k_ch2, e_ite, k_ite, e_call, k_call1, k_call2, e_blt, k_blt, e_meth, k_meth1, k_meth2, e_tup, e_lst, e_dct0, e_dcd, e_idx, k_idx1, k_idx2, e_slc, k_slc1, k_slc2, k_slc3, o_none, o_some, k_o, e_new, k_new, e_lc, k_lc, lc_g, es_nil, es_cons, k_es1, k_es2, t_nil, t_cons, k_t, i_val, i_range, i_enum, k_ent, k_enl, enumD, s_par, k_par, setAll, k_body, k_turn, k_ivl, k_ivt, k_ivs,
      g_name, g_tup, g_sub, k_sub1, gs_nil, gs_cons, k_gs, s_asg, k_asg1, k_nx, s_expr, k_expr, s_ret, k_ret, s_iff, k_if, s_for, k_for, s_aug, s_pass, ss_nil, ss_cons, k_ss, bind_ok, bind_exc, bind_stuck, go_ok, go_exc, seq_nx, seq_rt, seq_exc, turn_nx, turn_rt, turn_exc, calm_ok', end_d, end_nx, end_exc, tru_bl, give, give_b, ders, der, arrD, List.getElem?_cons_zero, List.getElem?_cons_succ, List.set_cons_zero, List.set_cons_succ, if_true, if_false, Bool.false_eq_true, Bool.not_true, Bool.not_false, List.take_length,
      e_isi, k_isi, e_tin, k_tinP, k_tinN, e_tget, k_tget, g_star, i_zip, is_int_non, is_int_bl, is_int_int, is_int_str, is_int_tup, is_int_lst, is_int_dct, is_str_non, is_str_bl, is_str_int, is_str_str, is_str_tup, is_str_lst, is_str_dct, is_bool_non, is_bool_bl, is_bool_int, is_bool_str, is_bool_tup, is_bool_lst, is_bool_dct, is_tuple_non, is_tuple_bl, is_tuple_int, is_tuple_str, is_tuple_tup, is_tuple_lst, is_tuple_dct, is_list_non, is_list_bl, is_list_int, is_list_str, is_list_tup, is_list_lst, is_list_dct, is_dict_non, is_dict_bl, is_dict_int, is_dict_str, is_dict_tup, is_dict_lst, is_dict_dct,
      bfD, len_s, len_l, len_t, c_eq_ii, c_ne_ii, c_lt_ii, c_le_ii, c_gt_ii, c_ge_ii, c_is_non, c_isn_non, noneD, Int.cast_ofNat_Int, Int.reduceEq, Int.reduceLT, Int.reduceLE, decide_true, decide_false, kTup, kLst, pures, sizeLine_eq, Nat.reduceLeDiff, g_tupq, idx_q0, idx_q1, is_tuple_q, len_q, k_ivq, pl_get1 hn, dmI hm hm2 hb, pl_put1 hn, take_set]
    have r0 := Int.emod_nonneg g (show many ≠ 0 by omega)
    have r1 := Int.emod_lt_of_pos g hm
    exact ⟨(g % many).toNat, _, by rw [Int.toNat_of_nonneg r0], ⟨_, ⟨s', g / many, c + 1, rfl, q1, q2, Int.ediv_nonneg p3 (by omega), by omega⟩, by rw [List.set_set]⟩, by omega⟩
  · simp only [hg, List.map_cons, List.map_nil, List.length_cons, List.length_nil, List.replicate, List.cons_append, List.nil_append, List.append_nil, Nat.reduceAdd, Nat.reduceSub, Nat.zero_add,
      e_var, e_con, e_bin, k_bin1, k_bin2, e_neg, k_neg, e_not, k_not, e_and, k_and, e_or, k_or, e_cmp, k_cmp1, k_cmp2, e_chain, k_ch1, k_ch2, e_ite, k_ite, e_call, k_call1, k_call2, e_blt, k_blt, e_meth, k_meth1, k_meth2, e_tup, e_lst, e_dct0, e_dcd, e_idx, k_idx1, k_idx2, e_slc, k_slc1, k_slc2, k_slc3, o_none, o_some, k_o, e_new, k_new, e_lc, k_lc, lc_g, es_nil, es_cons, k_es1, k_es2, t_nil, t_cons, k_t, i_val, i_range, i_enum, k_ent, k_enl, enumD, s_par, k_par, setAll, k_body, k_turn, k_ivl, k_ivt, k_ivs,
      g_name, g_tup, g_sub, k_sub1, gs_nil, gs_cons, k_gs, s_asg, k_asg1, k_nx, s_expr, k_expr, s_ret, k_ret, s_iff, k_if, s_for, k_for, s_aug, s_pass, ss_nil, ss_cons, k_ss, bind_ok, bind_exc, bind_stuck, go_ok, go_exc, seq_nx, seq_rt, seq_exc, turn_nx, turn_rt, turn_exc, calm_ok', end_d, end_nx, end_exc, tru_bl, give, give_b, ders, der, arrD, List.getElem?_cons_zero, List.getElem?_cons_succ, List.set_cons_zero, List.set_cons_succ, if_true, if_false, Bool.false_eq_true, Bool.not_true, Bool.not_false, List.take_length,
      e_isi, k_isi, e_tin, k_tinP, k_tinN, e_tget, k_tget, g_star, i_zip, is_int_non, is_int_bl, is_int_int, is_int_str, is_int_tup, is_int_lst, is_int_dct, is_str_non, is_str_bl, is_str_int, is_str_str, is_str_tup, is_str_lst, is_str_dct, is_bool_non, is_bool_bl, is_bool_int, is_bool_str, is_bool_tup, is_bool_lst, is_bool_dct, is_tuple_non, is_tuple_bl, is_tuple_int, is_tuple_str, is_tuple_tup, is_tuple_lst, is_tuple_dct, is_list_non, is_list_bl, is_list_int, is_list_str, is_list_tup, is_list_lst, is_list_dct, is_dict_non, is_dict_bl, is_dict_int, is_dict_str, is_dict_tup, is_dict_lst, is_dict_dct,
      bfD, len_s, len_l, len_t, c_eq_ii, c_ne_ii, c_lt_ii, c_le_ii, c_gt_ii, c_ge_ii, c_is_non, c_isn_non, noneD, Int.cast_ofNat_Int, Int.reduceEq, Int.reduceLT, Int.reduceLE, decide_true, decide_false, kTup, kLst, pures, sizeLine_eq, Nat.reduceLeDiff, g_tupq, idx_q0, idx_q1, is_tuple_q, len_q, k_ivq, pl_get0 hn, fdiv_pos (i := s') (show (0 : Int) < 64 by decide) (show (64 : Int).natAbs < 2 ^ 10 by decide) (by decide), mod_pos hm, take_set]
    have r0 := Int.emod_nonneg (s' / 64) (show many ≠ 0 by omega)
    have r1 := Int.emod_lt_of_pos (s' / 64) hm
    exact ⟨(s' / 64 % many).toNat, _, by rw [Int.toNat_of_nonneg r0], ⟨_, ⟨s', g, c + 1, rfl, q1, q2, p3, by omega⟩, by rw [List.set_set]⟩, by omega⟩
omit T in
theorem cell_loop {F : Fs} {a b : Option Vv} : ∀ (ns : List Int) (s : Int) (c : Option Vv), 0 ≤ s → s < 2147483423 → ∃ s' c', 0 ≤ s' ∧ s' < 2147483423 ∧ forLoop [] (lcG F (.name 3)) (evSs F I12b1) (ns.map D.int) [a, b, some (.d (.int s)), c] st = .nx [a, b, some (.d (.int s')), c'] st
  | [], s, c, h0, h1 => ⟨s, c, h0, h1, rfl⟩
  | x :: ns, s, c, h0, h1 => by
    have e1 : binD .Mult (.int s) (.int 38011) = some (.int (s * 38011)) := mulR (by decide)
    obtain ⟨s', c', q0, q1, q2⟩ := cell_loop (F := F) (a := a) (b := b) ns ((s * 38011 + x) % 2147483423) (some (.d (.int x))) (Int.emod_nonneg _ (by decide)) (Int.emod_lt_of_pos _ (by decide))
    refine ⟨s', c', q0, q1, ?_⟩
    simp only [I12b1, for_cons, List.map_cons, List.map_nil, List.length_cons, List.length_nil, List.replicate, List.cons_append, List.nil_append, List.append_nil, Nat.reduceAdd, Nat.reduceSub, Nat.zero_add,
      e_var, e_con, e_bin, k_bin1, k_bin2, e_neg, k_neg, e_not, k_not, e_and, k_and, e_or, k_or, e_cmp, k_cmp1, k_cmp2, e_chain, k_ch1, k_ch2, e_ite, k_ite, e_call, k_call1, k_call2, e_blt, k_blt, e_meth, k_meth1, k_meth2, e_tup, e_lst, e_dct0, e_dcd, e_idx, k_idx1, k_idx2, e_slc, k_slc1, k_slc2, k_slc3, o_none, o_some, k_o, e_new, k_new, e_lc, k_lc, lc_g, es_nil, es_cons, k_es1, k_es2, t_nil, t_cons, k_t, i_val, i_range, i_enum, k_ent, k_enl, enumD, s_par, k_par, setAll, k_body, k_turn, k_ivl, k_ivt, k_ivs,
      g_name, g_tup, g_sub, k_sub1, gs_nil, gs_cons, k_gs, s_asg, k_asg1, k_nx, s_expr, k_expr, s_ret, k_ret, s_iff, k_if, s_for, k_for, s_aug, s_pass, ss_nil, ss_cons, k_ss, bind_ok, bind_exc, bind_stuck, go_ok, go_exc, seq_nx, seq_rt, seq_exc, turn_nx, turn_rt, turn_exc, calm_ok', end_d, end_nx, end_exc, tru_bl, give, give_b, ders, der, arrD, List.getElem?_cons_zero, List.getElem?_cons_succ, List.set_cons_zero, List.set_cons_succ, if_true, if_false, Bool.false_eq_true, Bool.not_true, Bool.not_false, List.take_length,
      e_isi, k_isi, e_tin, k_tinP, k_tinN, e_tget, k_tget, g_star, i_zip, is_int_non, is_int_bl, is_int_int, is_int_str, is_int_tup, is_int_lst, is_int_dct, is_str_non, is_str_bl, is_str_int, is_str_str, is_str_tup, is_str_lst, is_str_dct, is_bool_non, is_bool_bl, is_bool_int, is_bool_str, is_bool_tup, is_bool_lst, is_bool_dct, is_tuple_non, is_tuple_bl, is_tuple_int, is_tuple_str, is_tuple_tup, is_tuple_lst, is_tuple_dct, is_list_non, is_list_bl, is_list_int, is_list_str, is_list_tup, is_list_lst, is_list_dct, is_dict_non, is_dict_bl, is_dict_int, is_dict_str, is_dict_tup, is_dict_lst, is_dict_dct,
      bfD, len_s, len_l, len_t, c_eq_ii, c_ne_ii, c_lt_ii, c_le_ii, c_gt_ii, c_ge_ii, c_is_non, c_isn_non, noneD, Int.cast_ofNat_Int, Int.reduceEq, Int.reduceLT, Int.reduceLE, decide_true, decide_false, kTup, kLst, pures, sizeLine_eq, Nat.reduceLeDiff, g_tupq, idx_q0, idx_q1, is_tuple_q, len_q, k_ivq, e1, addI, mod_pos (show (0 : Int) < 2147483423 by decide)]
    exact q2
theorem cell_ok {ns : List Int} {i : Nat} (hk : i < 2 ^ 60) : ∃ v, Fn t (k + 1) 12 [.d (.lst (ns.map D.int)), .d (.int i)] st = .ok (.d (.int v)) st := by
  rw [fn_at T rfl]
  simp only [runF, startE, I12, List.map_cons, List.map_nil, List.length_cons, List.length_nil, List.replicate, List.cons_append, List.nil_append, List.append_nil, Nat.reduceAdd, Nat.reduceSub, Nat.zero_add,
      e_var, e_con, e_bin, k_bin1, k_bin2, e_neg, k_neg, e_not, k_not, e_and, k_and, e_or, k_or, e_cmp, k_cmp1, k_cmp2, e_chain, k_ch1, k_ch2, e_ite, k_ite, e_call, k_call1, k_call2, e_blt, k_blt, e_meth, k_meth1, k_meth2, e_tup, e_lst, e_dct0, e_dcd, e_idx, k_idx1, k_idx2, e_slc, k_slc1, k_slc2, k_slc3, o_none, o_some, k_o, e_new, k_new, e_lc, k_lc, lc_g, es_nil, es_cons, k_es1, k_es2, t_nil, t_cons, k_t, i_val, i_range, i_enum, k_ent, k_enl, enumD, s_par, k_par, setAll, k_body, k_turn, k_ivl, k_ivt, k_ivs,
      g_name, g_tup, g_sub, k_sub1, gs_nil, gs_cons, k_gs, s_asg, k_asg1, k_nx, s_expr, k_expr, s_ret, k_ret, s_iff, k_if, s_for, k_for, s_aug, s_pass, ss_nil, ss_cons, k_ss, bind_ok, bind_exc, bind_stuck, go_ok, go_exc, seq_nx, seq_rt, seq_exc, turn_nx, turn_rt, turn_exc, calm_ok', end_d, end_nx, end_exc, tru_bl, give, give_b, ders, der, arrD, List.getElem?_cons_zero, List.getElem?_cons_succ, List.set_cons_zero, List.set_cons_succ, if_true, if_false, Bool.false_eq_true, Bool.not_true, Bool.not_false, List.take_length,
      e_isi, k_isi, e_tin, k_tinP, k_tinN, e_tget, k_tget, g_star, i_zip, is_int_non, is_int_bl, is_int_int, is_int_str, is_int_tup, is_int_lst, is_int_dct, is_str_non, is_str_bl, is_str_int, is_str_str, is_str_tup, is_str_lst, is_str_dct, is_bool_non, is_bool_bl, is_bool_int, is_bool_str, is_bool_tup, is_bool_lst, is_bool_dct, is_tuple_non, is_tuple_bl, is_tuple_int, is_tuple_str, is_tuple_tup, is_tuple_lst, is_tuple_dct, is_list_non, is_list_bl, is_list_int, is_list_str, is_list_tup, is_list_lst, is_list_dct, is_dict_non, is_dict_bl, is_dict_int, is_dict_str, is_dict_tup, is_dict_lst, is_dict_dct,
      bfD, len_s, len_l, len_t, c_eq_ii, c_ne_ii, c_lt_ii, c_le_ii, c_gt_ii, c_ge_ii, c_is_non, c_isn_non, noneD, Int.cast_ofNat_Int, Int.reduceEq, Int.reduceLT, Int.reduceLE, decide_true, decide_false, kTup, kLst, pures, sizeLine_eq, Nat.reduceLeDiff, g_tupq, idx_q0, idx_q1, is_tuple_q, len_q, k_ivq, List.length_map]
  by_cases h : (i : Int) < ns.length
  · simp only [h, List.map_cons, List.map_nil, List.length_cons, List.length_nil, List.replicate, List.cons_append, List.nil_append, List.append_nil, Nat.reduceAdd, Nat.reduceSub, Nat.zero_add,
      e_var, e_con, e_bin, k_bin1, k_bin2, e_neg, k_neg, e_not, k_not, e_and, k_and, e_or, k_or, e_cmp, k_cmp1, k_cmp2, e_chain, k_ch1, k_ch2, e_ite, k_ite, e_call, k_call1, k_call2, e_blt, k_blt, e_meth, k_meth1, k_meth2, e_tup, e_lst, e_dct0, e_dcd, e_idx, k_idx1, k_idx2, e_slc, k_slc1, k_slc2, k_slc3, o_none, o_some, k_o, e_new, k_new, e_lc, k_lc, lc_g, es_nil, es_cons, k_es1, k_es2, t_nil, t_cons, k_t, i_val, i_range, i_enum, k_ent, k_enl, enumD, s_par, k_par, setAll, k_body, k_turn, k_ivl, k_ivt, k_ivs,
      g_name, g_tup, g_sub, k_sub1, gs_nil, gs_cons, k_gs, s_asg, k_asg1, k_nx, s_expr, k_expr, s_ret, k_ret, s_iff, k_if, s_for, k_for, s_aug, s_pass, ss_nil, ss_cons, k_ss, bind_ok, bind_exc, bind_stuck, go_ok, go_exc, seq_nx, seq_rt, seq_exc, turn_nx, turn_rt, turn_exc, calm_ok', end_d, end_nx, end_exc, tru_bl, give, give_b, ders, der, arrD, List.getElem?_cons_zero, List.getElem?_cons_succ, List.set_cons_zero, List.set_cons_succ, if_true, if_false, Bool.false_eq_true, Bool.not_true, Bool.not_false, List.take_length,
      e_isi, k_isi, e_tin, k_tinP, k_tinN, e_tget, k_tget, g_star, i_zip, is_int_non, is_int_bl, is_int_int, is_int_str, is_int_tup, is_int_lst, is_int_dct, is_str_non, is_str_bl, is_str_int, is_str_str, is_str_tup, is_str_lst, is_str_dct, is_bool_non, is_bool_bl, is_bool_int, is_bool_str, is_bool_tup, is_bool_lst, is_bool_dct, is_tuple_non, is_tuple_bl, is_tuple_int, is_tuple_str, is_tuple_tup, is_tuple_lst, is_tuple_dct, is_list_non, is_list_bl, is_list_int, is_list_str, is_list_tup, is_list_lst, is_list_dct, is_dict_non, is_dict_bl, is_dict_int, is_dict_str, is_dict_tup, is_dict_lst, is_dict_dct,
      bfD, len_s, len_l, len_t, c_eq_ii, c_ne_ii, c_lt_ii, c_le_ii, c_gt_ii, c_ge_ii, c_is_non, c_isn_non, noneD, Int.cast_ofNat_Int, Int.reduceEq, Int.reduceLT, Int.reduceLE, decide_true, decide_false, kTup, kLst, pures, sizeLine_eq, Nat.reduceLeDiff, g_tupq, idx_q0, idx_q1, is_tuple_q, len_q, k_ivq, idxD]
    have hk' : i < ns.length := by omega
    have : L2.atI (ns.map D.int) (i : Int) = some (.int ns[i]) := by
      rw [atI_nat (v := .int ns[i]) (by rw [List.getElem?_map, List.getElem?_eq_getElem hk']; rfl)]
    rw [this]
    exact ⟨ns[i], by simp only [List.map_cons, List.map_nil, List.length_cons, List.length_nil, List.replicate, List.cons_append, List.nil_append, List.append_nil, Nat.reduceAdd, Nat.reduceSub, Nat.zero_add,
      e_var, e_con, e_bin, k_bin1, k_bin2, e_neg, k_neg, e_not, k_not, e_and, k_and, e_or, k_or, e_cmp, k_cmp1, k_cmp2, e_chain, k_ch1, k_ch2, e_ite, k_ite, e_call, k_call1, k_call2, e_blt, k_blt, e_meth, k_meth1, k_meth2, e_tup, e_lst, e_dct0, e_dcd, e_idx, k_idx1, k_idx2, e_slc, k_slc1, k_slc2, k_slc3, o_none, o_some, k_o, e_new, k_new, e_lc, k_lc, lc_g, es_nil, es_cons, k_es1, k_es2, t_nil, t_cons, k_t, i_val, i_range, i_enum, k_ent, k_enl, enumD, s_par, k_par, setAll, k_body, k_turn, k_ivl, k_ivt, k_ivs,
      g_name, g_tup, g_sub, k_sub1, gs_nil, gs_cons, k_gs, s_asg, k_asg1, k_nx, s_expr, k_expr, s_ret, k_ret, s_iff, k_if, s_for, k_for, s_aug, s_pass, ss_nil, ss_cons, k_ss, bind_ok, bind_exc, bind_stuck, go_ok, go_exc, seq_nx, seq_rt, seq_exc, turn_nx, turn_rt, turn_exc, calm_ok', end_d, end_nx, end_exc, tru_bl, give, give_b, ders, der, arrD, List.getElem?_cons_zero, List.getElem?_cons_succ, List.set_cons_zero, List.set_cons_succ, if_true, if_false, Bool.false_eq_true, Bool.not_true, Bool.not_false, List.take_length,
      e_isi, k_isi, e_tin, k_tinP, k_tinN, e_tget, k_tget, g_star, i_zip, is_int_non, is_int_bl, is_int_int, is_int_str, is_int_tup, is_int_lst, is_int_dct, is_str_non, is_str_bl, is_str_int, is_str_str, is_str_tup, is_str_lst, is_str_dct, is_bool_non, is_bool_bl, is_bool_int, is_bool_str, is_bool_tup, is_bool_lst, is_bool_dct, is_tuple_non, is_tuple_bl, is_tuple_int, is_tuple_str, is_tuple_tup, is_tuple_lst, is_tuple_dct, is_list_non, is_list_bl, is_list_int, is_list_str, is_list_tup, is_list_lst, is_list_dct, is_dict_non, is_dict_bl, is_dict_int, is_dict_str, is_dict_tup, is_dict_lst, is_dict_dct,
      bfD, len_s, len_l, len_t, c_eq_ii, c_ne_ii, c_lt_ii, c_le_ii, c_gt_ii, c_ge_ii, c_is_non, c_isn_non, noneD, Int.cast_ofNat_Int, Int.reduceEq, Int.reduceLT, Int.reduceLE, decide_true, decide_false, kTup, kLst, pures, sizeLine_eq, Nat.reduceLeDiff, g_tupq, idx_q0, idx_q1, is_tuple_q, len_q, k_ivq]⟩
  · have e1 : binD .Mult (.int i) (.int i) = some (.int (i * i)) := mulL (by omega)
    have e2 : binD .Mult (.int 7) (.int i) = some (.int (7 * i)) := mulL (by decide)
    have e3 : binD .Mult (.int 70003) (.int (i * i + 7 * i + 5)) = some (.int (70003 * (i * i + 7 * i + 5))) := mulL (by decide)
    simp only [h, List.map_cons, List.map_nil, List.length_cons, List.length_nil, List.replicate, List.cons_append, List.nil_append, List.append_nil, Nat.reduceAdd, Nat.reduceSub, Nat.zero_add,
      e_var, e_con, e_bin, k_bin1, k_bin2, e_neg, k_neg, e_not, k_not, e_and, k_and, e_or, k_or, e_cmp, k_cmp1, k_cmp2, e_chain, k_ch1, k_ch2, e_ite, k_ite, e_call, k_call1, k_call2, e_blt, k_blt, e_meth, k_meth1, k_meth2, e_tup, e_lst, e_dct0, e_dcd, e_idx, k_idx1, k_idx2, e_slc, k_slc1, k_slc2, k_slc3, o_none, o_some, k_o, e_new, k_new, e_lc, k_lc, lc_g, es_nil, es_cons, k_es1, k_es2, t_nil, t_cons, k_t, i_val, i_range, i_enum, k_ent, k_enl, enumD, s_par, k_par, setAll, k_body, k_turn, k_ivl, k_ivt, k_ivs,
      g_name, g_tup, g_sub, k_sub1, gs_nil, gs_cons, k_gs, s_asg, k_asg1, k_nx, s_expr, k_expr, s_ret, k_ret, s_iff, k_if, s_for, k_for, s_aug, s_pass, ss_nil, ss_cons, k_ss, bind_ok, bind_exc, bind_stuck, go_ok, go_exc, seq_nx, seq_rt, seq_exc, turn_nx, turn_rt, turn_exc, calm_ok', end_d, end_nx, end_exc, tru_bl, give, give_b, ders, der, arrD, List.getElem?_cons_zero, List.getElem?_cons_succ, List.set_cons_zero, List.set_cons_succ, if_true, if_false, Bool.false_eq_true, Bool.not_true, Bool.not_false, List.take_length,
      e_isi, k_isi, e_tin, k_tinP, k_tinN, e_tget, k_tget, g_star, i_zip, is_int_non, is_int_bl, is_int_int, is_int_str, is_int_tup, is_int_lst, is_int_dct, is_str_non, is_str_bl, is_str_int, is_str_str, is_str_tup, is_str_lst, is_str_dct, is_bool_non, is_bool_bl, is_bool_int, is_bool_str, is_bool_tup, is_bool_lst, is_bool_dct, is_tuple_non, is_tuple_bl, is_tuple_int, is_tuple_str, is_tuple_tup, is_tuple_lst, is_tuple_dct, is_list_non, is_list_bl, is_list_int, is_list_str, is_list_tup, is_list_lst, is_list_dct, is_dict_non, is_dict_bl, is_dict_int, is_dict_str, is_dict_tup, is_dict_lst, is_dict_dct,
      bfD, len_s, len_l, len_t, c_eq_ii, c_ne_ii, c_lt_ii, c_le_ii, c_gt_ii, c_ge_ii, c_is_non, c_isn_non, noneD, Int.cast_ofNat_Int, Int.reduceEq, Int.reduceLT, Int.reduceLE, decide_true, decide_false, kTup, kLst, pures, sizeLine_eq, Nat.reduceLeDiff, g_tupq, idx_q0, idx_q1, is_tuple_q, len_q, k_ivq, e1, e2, e3, addI, mod_pos (show (0 : Int) < 2147483423 by decide), slcD]
    have hc : cutD (ns.map D.int) none (some 3) = (ns.take 3).map D.int := by
      unfold cutD
      rw [HT.sIx_none, show (HT.sIx (ns.map D.int).length (ns.map D.int).length (some 3)) = min 3 (ns.map D.int).length from HT.sIx_nat _ _ 3]
      simp only [List.drop_zero, Nat.sub_zero, List.length_map]
      rw [List.map_take]
      rw [List.take_eq_take_iff]
      simp
    rw [hc]
    obtain ⟨s', c', q0, q1, q2⟩ := cell_loop (F := Fn t k) (st := st) (a := some (.d (.lst (ns.map D.int)))) (b := some (.d (.int i))) (ns.take 3) ((70003 * ((i : Int) * i + 7 * i + 5)) % 2147483423) none (Int.emod_nonneg _ (by decide)) (Int.emod_lt_of_pos _ (by decide))
    rw [q2]
    exact ⟨s', by simp only [List.map_cons, List.map_nil, List.length_cons, List.length_nil, List.replicate, List.cons_append, List.nil_append, List.append_nil, Nat.reduceAdd, Nat.reduceSub, Nat.zero_add,
      e_var, e_con, e_bin, k_bin1, k_bin2, e_neg, k_neg, e_not, k_not, e_and, k_and, e_or, k_or, e_cmp, k_cmp1, k_cmp2, e_chain, k_ch1, k_ch2, e_ite, k_ite, e_call, k_call1, k_call2, e_blt, k_blt, e_meth, k_meth1, k_meth2, e_tup, e_lst, e_dct0, e_dcd, e_idx, k_idx1, k_idx2, e_slc, k_slc1, k_slc2, k_slc3, o_none, o_some, k_o, e_new, k_new, e_lc, k_lc, lc_g, es_nil, es_cons, k_es1, k_es2, t_nil, t_cons, k_t, i_val, i_range, i_enum, k_ent, k_enl, enumD, s_par, k_par, setAll, k_body, k_turn, k_ivl, k_ivt, k_ivs,
      g_name, g_tup, g_sub, k_sub1, gs_nil, gs_cons, k_gs, s_asg, k_asg1, k_nx, s_expr, k_expr, s_ret, k_ret, s_iff, k_if, s_for, k_for, s_aug, s_pass, ss_nil, ss_cons, k_ss, bind_ok, bind_exc, bind_stuck, go_ok, go_exc, seq_nx, seq_rt, seq_exc, turn_nx, turn_rt, turn_exc, calm_ok', end_d, end_nx, end_exc, tru_bl, give, give_b, ders, der, arrD, List.getElem?_cons_zero, List.getElem?_cons_succ, List.set_cons_zero, List.set_cons_succ, if_true, if_false, Bool.false_eq_true, Bool.not_true, Bool.not_false, List.take_length,
      e_isi, k_isi, e_tin, k_tinP, k_tinN, e_tget, k_tget, g_star, i_zip, is_int_non, is_int_bl, is_int_int, is_int_str, is_int_tup, is_int_lst, is_int_dct, is_str_non, is_str_bl, is_str_int, is_str_str, is_str_tup, is_str_lst, is_str_dct, is_bool_non, is_bool_bl, is_bool_int, is_bool_str, is_bool_tup, is_bool_lst, is_bool_dct, is_tuple_non, is_tuple_bl, is_tuple_int, is_tuple_str, is_tuple_tup, is_tuple_lst, is_tuple_dct, is_list_non, is_list_bl, is_list_int, is_list_str, is_list_tup, is_list_lst, is_list_dct, is_dict_non, is_dict_bl, is_dict_int, is_dict_str, is_dict_tup, is_dict_lst, is_dict_dct,
      bfD, len_s, len_l, len_t, c_eq_ii, c_ne_ii, c_lt_ii, c_le_ii, c_gt_ii, c_ge_ii, c_is_non, c_isn_non, noneD, Int.cast_ofNat_Int, Int.reduceEq, Int.reduceLT, Int.reduceLE, decide_true, decide_false, kTup, kLst, pures, sizeLine_eq, Nat.reduceLeDiff, g_tupq, idx_q0, idx_q1, is_tuple_q, len_q, k_ivq]⟩
omit T in
theorem powI {i : Int} {j : Nat} (h : i.natAbs < 18446744073709551616) (hj : j ≤ 1000000) : binD .Pow (.int i) (.int j) = some (.int (i ^ j)) := by
  simp only [binD]
  rw [if_pos ⟨by omega, by omega, by simpa using h⟩]
  rfl
theorem pool_ok (v : Int) : ∃ p, Fn t (k + 1) 13 [.d (.int v)] st = .ok (.ref st.length) (st ++ [p]) ∧ PoolO p := by
  rw [fn_at T rfl]
  have q0 := Int.emod_nonneg v (show (2147483423 : Int) ≠ 0 by decide)
  have q1 := Int.emod_lt_of_pos v (show (0 : Int) < 2147483423 by decide)
  have e : binD .Pow (.int 10) (.int 18) = some (.int 1000000000000000000) := powI (j := 18) (by decide) (by decide)
  by_cases h : v < 0
  · simp only [runF, startE, I13, List.map_cons, List.map_nil, List.length_cons, List.length_nil, List.replicate, List.cons_append, List.nil_append, List.append_nil, Nat.reduceAdd, Nat.reduceSub, Nat.zero_add,
      e_var, e_con, e_bin, k_bin1, k_bin2, e_neg, k_neg, e_not, k_not, e_and, k_and, e_or, k_or, e_cmp, k_cmp1, k_cmp2, e_chain, k_ch1, k_ch2, e_ite, k_ite, e_call, k_call1, k_call2, e_blt, k_blt, e_meth, k_meth1, k_meth2, e_tup, e_lst, e_dct0, e_dcd, e_idx, k_idx1, k_idx2, e_slc, k_slc1, k_slc2, k_slc3, o_none, o_some, k_o, e_new, k_new, e_lc, k_lc, lc_g, es_nil, es_cons, k_es1, k_es2, t_nil, t_cons, k_t, i_val, i_range, i_enum, k_ent, k_enl, enumD, s_par, k_par, setAll, k_body, k_turn, k_ivl, k_ivt, k_ivs,
      g_name, g_tup, g_sub, k_sub1, gs_nil, gs_cons, k_gs, s_asg, k_asg1, k_nx, s_expr, k_expr, s_ret, k_ret, s_iff, k_if, s_for, k_for, s_aug, s_pass, ss_nil, ss_cons, k_ss, bind_ok, bind_exc, bind_stuck, go_ok, go_exc, seq_nx, seq_rt, seq_exc, turn_nx, turn_rt, turn_exc, calm_ok', end_d, end_nx, end_exc, tru_bl, give, give_b, ders, der, arrD, List.getElem?_cons_zero, List.getElem?_cons_succ, List.set_cons_zero, List.set_cons_succ, if_true, if_false, Bool.false_eq_true, Bool.not_true, Bool.not_false, List.take_length,
      e_isi, k_isi, e_tin, k_tinP, k_tinN, e_tget, k_tget, g_star, i_zip, is_int_non, is_int_bl, is_int_int, is_int_str, is_int_tup, is_int_lst, is_int_dct, is_str_non, is_str_bl, is_str_int, is_str_str, is_str_tup, is_str_lst, is_str_dct, is_bool_non, is_bool_bl, is_bool_int, is_bool_str, is_bool_tup, is_bool_lst, is_bool_dct, is_tuple_non, is_tuple_bl, is_tuple_int, is_tuple_str, is_tuple_tup, is_tuple_lst, is_tuple_dct, is_list_non, is_list_bl, is_list_int, is_list_str, is_list_tup, is_list_lst, is_list_dct, is_dict_non, is_dict_bl, is_dict_int, is_dict_str, is_dict_tup, is_dict_lst, is_dict_dct,
      bfD, len_s, len_l, len_t, c_eq_ii, c_ne_ii, c_lt_ii, c_le_ii, c_gt_ii, c_ge_ii, c_is_non, c_isn_non, noneD, Int.cast_ofNat_Int, Int.reduceEq, Int.reduceLT, Int.reduceLE, decide_true, decide_false, kTup, kLst, pures, sizeLine_eq, Nat.reduceLeDiff, g_tupq, idx_q0, idx_q1, is_tuple_q, len_q, k_ivq, h, absI, mod_pos (show (0 : Int) < 2147483423 by decide), end_ref]
    exact ⟨_, rfl, _, _, _, rfl, q0, q1, by omega, by omega⟩
  · by_cases h2 : (1000000000000000000 : Int) ≤ v
    · simp only [runF, startE, I13, List.map_cons, List.map_nil, List.length_cons, List.length_nil, List.replicate, List.cons_append, List.nil_append, List.append_nil, Nat.reduceAdd, Nat.reduceSub, Nat.zero_add,
      e_var, e_con, e_bin, k_bin1, k_bin2, e_neg, k_neg, e_not, k_not, e_and, k_and, e_or, k_or, e_cmp, k_cmp1, k_cmp2, e_chain, k_ch1, k_ch2, e_ite, k_ite, e_call, k_call1, k_call2, e_blt, k_blt, e_meth, k_meth1, k_meth2, e_tup, e_lst, e_dct0, e_dcd, e_idx, k_idx1, k_idx2, e_slc, k_slc1, k_slc2, k_slc3, o_none, o_some, k_o, e_new, k_new, e_lc, k_lc, lc_g, es_nil, es_cons, k_es1, k_es2, t_nil, t_cons, k_t, i_val, i_range, i_enum, k_ent, k_enl, enumD, s_par, k_par, setAll, k_body, k_turn, k_ivl, k_ivt, k_ivs,
      g_name, g_tup, g_sub, k_sub1, gs_nil, gs_cons, k_gs, s_asg, k_asg1, k_nx, s_expr, k_expr, s_ret, k_ret, s_iff, k_if, s_for, k_for, s_aug, s_pass, ss_nil, ss_cons, k_ss, bind_ok, bind_exc, bind_stuck, go_ok, go_exc, seq_nx, seq_rt, seq_exc, turn_nx, turn_rt, turn_exc, calm_ok', end_d, end_nx, end_exc, tru_bl, give, give_b, ders, der, arrD, List.getElem?_cons_zero, List.getElem?_cons_succ, List.set_cons_zero, List.set_cons_succ, if_true, if_false, Bool.false_eq_true, Bool.not_true, Bool.not_false, List.take_length,
      e_isi, k_isi, e_tin, k_tinP, k_tinN, e_tget, k_tget, g_star, i_zip, is_int_non, is_int_bl, is_int_int, is_int_str, is_int_tup, is_int_lst, is_int_dct, is_str_non, is_str_bl, is_str_int, is_str_str, is_str_tup, is_str_lst, is_str_dct, is_bool_non, is_bool_bl, is_bool_int, is_bool_str, is_bool_tup, is_bool_lst, is_bool_dct, is_tuple_non, is_tuple_bl, is_tuple_int, is_tuple_str, is_tuple_tup, is_tuple_lst, is_tuple_dct, is_list_non, is_list_bl, is_list_int, is_list_str, is_list_tup, is_list_lst, is_list_dct, is_dict_non, is_dict_bl, is_dict_int, is_dict_str, is_dict_tup, is_dict_lst, is_dict_dct,
      bfD, len_s, len_l, len_t, c_eq_ii, c_ne_ii, c_lt_ii, c_le_ii, c_gt_ii, c_ge_ii, c_is_non, c_isn_non, noneD, Int.cast_ofNat_Int, Int.reduceEq, Int.reduceLT, Int.reduceLE, decide_true, decide_false, kTup, kLst, pures, sizeLine_eq, Nat.reduceLeDiff, g_tupq, idx_q0, idx_q1, is_tuple_q, len_q, k_ivq, h, h2, absI, mod_pos (show (0 : Int) < 2147483423 by decide), end_ref, e]
      exact ⟨_, rfl, _, _, _, rfl, q0, q1, by omega, by omega⟩
    · simp only [runF, startE, I13, List.map_cons, List.map_nil, List.length_cons, List.length_nil, List.replicate, List.cons_append, List.nil_append, List.append_nil, Nat.reduceAdd, Nat.reduceSub, Nat.zero_add,
      e_var, e_con, e_bin, k_bin1, k_bin2, e_neg, k_neg, e_not, k_not, e_and, k_and, e_or, k_or, e_cmp, k_cmp1, k_cmp2, e_chain, k_ch1, k_ch2, e_ite, k_ite, e_call, k_call1, k_call2, e_blt, k_blt, e_meth, k_meth1, k_meth2, e_tup, e_lst, e_dct0, e_dcd, e_idx, k_idx1, k_idx2, e_slc, k_slc1, k_slc2, k_slc3, o_none, o_some, k_o, e_new, k_new, e_lc, k_lc, lc_g, es_nil, es_cons, k_es1, k_es2, t_nil, t_cons, k_t, i_val, i_range, i_enum, k_ent, k_enl, enumD, s_par, k_par, setAll, k_body, k_turn, k_ivl, k_ivt, k_ivs,
      g_name, g_tup, g_sub, k_sub1, gs_nil, gs_cons, k_gs, s_asg, k_asg1, k_nx, s_expr, k_expr, s_ret, k_ret, s_iff, k_if, s_for, k_for, s_aug, s_pass, ss_nil, ss_cons, k_ss, bind_ok, bind_exc, bind_stuck, go_ok, go_exc, seq_nx, seq_rt, seq_exc, turn_nx, turn_rt, turn_exc, calm_ok', end_d, end_nx, end_exc, tru_bl, give, give_b, ders, der, arrD, List.getElem?_cons_zero, List.getElem?_cons_succ, List.set_cons_zero, List.set_cons_succ, if_true, if_false, Bool.false_eq_true, Bool.not_true, Bool.not_false, List.take_length,
      e_isi, k_isi, e_tin, k_tinP, k_tinN, e_tget, k_tget, g_star, i_zip, is_int_non, is_int_bl, is_int_int, is_int_str, is_int_tup, is_int_lst, is_int_dct, is_str_non, is_str_bl, is_str_int, is_str_str, is_str_tup, is_str_lst, is_str_dct, is_bool_non, is_bool_bl, is_bool_int, is_bool_str, is_bool_tup, is_bool_lst, is_bool_dct, is_tuple_non, is_tuple_bl, is_tuple_int, is_tuple_str, is_tuple_tup, is_tuple_lst, is_tuple_dct, is_list_non, is_list_bl, is_list_int, is_list_str, is_list_tup, is_list_lst, is_list_dct, is_dict_non, is_dict_bl, is_dict_int, is_dict_str, is_dict_tup, is_dict_lst, is_dict_dct,
      bfD, len_s, len_l, len_t, c_eq_ii, c_ne_ii, c_lt_ii, c_le_ii, c_gt_ii, c_ge_ii, c_is_non, c_isn_non, noneD, Int.cast_ofNat_Int, Int.reduceEq, Int.reduceLT, Int.reduceLE, decide_true, decide_false, kTup, kLst, pures, sizeLine_eq, Nat.reduceLeDiff, g_tupq, idx_q0, idx_q1, is_tuple_q, len_q, k_ivq, h, h2, absI, mod_pos (show (0 : Int) < 2147483423 by decide), end_ref, e]
      exact ⟨_, rfl, _, _, _, rfl, q0, q1, by omega, by omega⟩
omit T in
theorem pool_at {p : MO} (h : PoolO p) : PoolAt st.length (st ++ [p]) := ⟨p, by simp, h⟩
end TW
namespace TW
open PySem PySem.Spec PyProof.Rows L2
/-! is_name -/
def I21e1 : E := (.cmp .In (.var 1) (.con (.str ⟨#[97, 98, 99, 100, 101, 102, 103, 104, 105, 106, 107, 108, 109, 110, 111, 112, 113, 114, 115, 116, 117, 118, 119, 120, 121, 122]⟩)))
def I21 : Ss := (.cons (.iff (.or (.not (.isi (.var 0) "str")) (.not (.chain .LtE .LtE (.con (.int 1)) (.blt .len (.cons (.var 0) .nil)) (.con (.int 8))))) (.cons (.ret (.con (.bl false))) .nil) .nil) (.cons (.ret (.and (.cmp .NotEq (.var 0) (.con (.str ⟨#[99, 104, 101, 115, 116]⟩))) (.blt .all (.cons (.lc I21e1 (.name 1) (.val (.var 0)) .nil [1]) .nil)))) .nil))
/-! _law_is_name -/
def I22e1 : E := (.cmp .In (.var 1) (.con (.str ⟨#[97, 98, 99, 100, 101, 102, 103, 104, 105, 106, 107, 108, 109, 110, 111, 112, 113, 114, 115, 116, 117, 118, 119, 120, 121, 122]⟩)))
def I22 : Ss := (.cons (.iff (.or (.not (.isi (.var 0) "str")) (.or (.not (.chain .Lt .Lt (.con (.int 0)) (.blt .len (.cons (.var 0) .nil)) (.con (.int 9)))) (.cmp .Eq (.var 0) (.con (.str ⟨#[99, 104, 101, 115, 116]⟩))))) (.cons (.ret (.con (.bl false))) .nil) .nil) (.cons (.ret (.blt .all (.cons (.lc I22e1 (.name 1) (.val (.var 0)) .nil [1]) .nil))) .nil))
/-! is_whole -/
def I26 : Ss := (.cons (.ret (.and (.isi (.var 0) "int") (.and (.not (.isi (.var 0) "bool")) (.chain .LtE .LtE (.var 1) (.var 0) (.var 2))))) .nil)
/-! fits -/
def I27 : Ss := (.cons (.iff (.cmp .Eq (.var 1) (.con (.str ⟨#[109, 101, 97, 115, 117, 114, 101, 115]⟩))) (.cons (.ret (.call 26 (.cons (.var 0) (.cons (.con (.int 1)) (.cons (.con (.int 9999)) .nil))) .nil [.inl 0, .inl 1, .inl 2])) .nil) .nil) (.cons (.iff (.and (.cmp .Eq (.var 1) (.con (.str ⟨#[110, 97, 109, 101, 32, 111, 114, 32, 99, 104, 101, 115, 116]⟩))) (.and (.isi (.var 0) "str") (.cmp .Eq (.var 0) (.con (.str ⟨#[99, 104, 101, 115, 116]⟩))))) (.cons (.ret (.con (.bl true))) .nil) .nil) (.cons (.ret (.call 21 (.cons (.var 0) .nil) .nil [.inl 0])) .nil)))
/-! is_deed -/
def I28e1 : E := (.call 27 (.cons (.var 3) (.cons (.var 4) .nil)) .nil [.inl 0, .inl 1])
def I28 : Ss := (.cons (.iff (.or (.not (.isi (.var 0) "tuple")) (.or (.not (.var 0)) (.or (.not (.isi (.idx (.var 0) (.con (.int 0))) "str")) (.tin true [(⟨#[99, 111, 109, 101]⟩, (.tup [(.str ⟨#[110, 97, 109, 101]⟩)])), (⟨#[98, 114, 105, 110, 103]⟩, (.tup [(.str ⟨#[110, 97, 109, 101]⟩), (.str ⟨#[110, 97, 109, 101]⟩), (.str ⟨#[109, 101, 97, 115, 117, 114, 101, 115]⟩)])), (⟨#[103, 105, 118, 101]⟩, (.tup [(.str ⟨#[110, 97, 109, 101]⟩), (.str ⟨#[110, 97, 109, 101]⟩), (.str ⟨#[109, 101, 97, 115, 117, 114, 101, 115]⟩)])), (⟨#[104, 97, 110, 100]⟩, (.tup [(.str ⟨#[110, 97, 109, 101]⟩), (.str ⟨#[110, 97, 109, 101]⟩), (.str ⟨#[110, 97, 109, 101]⟩), (.str ⟨#[109, 101, 97, 115, 117, 114, 101, 115]⟩)])), (⟨#[102, 111, 114, 103, 101, 116]⟩, (.tup [(.str ⟨#[110, 97, 109, 101]⟩), (.str ⟨#[110, 97, 109, 101, 32, 111, 114, 32, 99, 104, 101, 115, 116]⟩), (.str ⟨#[109, 101, 97, 115, 117, 114, 101, 115]⟩)])), (⟨#[103, 111]⟩, (.tup [(.str ⟨#[110, 97, 109, 101]⟩)]))] (.idx (.var 0) (.con (.int 0))))))) (.cons (.ret (.con (.bl false))) .nil) .nil) (.cons (.asg (.star [1] 2 false) (.var 0)) (.cons (.iff (.cmp .NotEq (.blt .len (.cons (.var 2) .nil)) (.blt .len (.cons (.tget [(⟨#[99, 111, 109, 101]⟩, (.tup [(.str ⟨#[110, 97, 109, 101]⟩)])), (⟨#[98, 114, 105, 110, 103]⟩, (.tup [(.str ⟨#[110, 97, 109, 101]⟩), (.str ⟨#[110, 97, 109, 101]⟩), (.str ⟨#[109, 101, 97, 115, 117, 114, 101, 115]⟩)])), (⟨#[103, 105, 118, 101]⟩, (.tup [(.str ⟨#[110, 97, 109, 101]⟩), (.str ⟨#[110, 97, 109, 101]⟩), (.str ⟨#[109, 101, 97, 115, 117, 114, 101, 115]⟩)])), (⟨#[104, 97, 110, 100]⟩, (.tup [(.str ⟨#[110, 97, 109, 101]⟩), (.str ⟨#[110, 97, 109, 101]⟩), (.str ⟨#[110, 97, 109, 101]⟩), (.str ⟨#[109, 101, 97, 115, 117, 114, 101, 115]⟩)])), (⟨#[102, 111, 114, 103, 101, 116]⟩, (.tup [(.str ⟨#[110, 97, 109, 101]⟩), (.str ⟨#[110, 97, 109, 101, 32, 111, 114, 32, 99, 104, 101, 115, 116]⟩), (.str ⟨#[109, 101, 97, 115, 117, 114, 101, 115]⟩)])), (⟨#[103, 111]⟩, (.tup [(.str ⟨#[110, 97, 109, 101]⟩)]))] (.var 1)) .nil))) (.cons (.ret (.con (.bl false))) .nil) .nil) (.cons (.iff (.not (.blt .all (.cons (.lc I28e1 (.tup (.cons (.name 3) (.cons (.name 4) .nil))) (.zip false (.cons (.var 2) (.cons (.tget [(⟨#[99, 111, 109, 101]⟩, (.tup [(.str ⟨#[110, 97, 109, 101]⟩)])), (⟨#[98, 114, 105, 110, 103]⟩, (.tup [(.str ⟨#[110, 97, 109, 101]⟩), (.str ⟨#[110, 97, 109, 101]⟩), (.str ⟨#[109, 101, 97, 115, 117, 114, 101, 115]⟩)])), (⟨#[103, 105, 118, 101]⟩, (.tup [(.str ⟨#[110, 97, 109, 101]⟩), (.str ⟨#[110, 97, 109, 101]⟩), (.str ⟨#[109, 101, 97, 115, 117, 114, 101, 115]⟩)])), (⟨#[104, 97, 110, 100]⟩, (.tup [(.str ⟨#[110, 97, 109, 101]⟩), (.str ⟨#[110, 97, 109, 101]⟩), (.str ⟨#[110, 97, 109, 101]⟩), (.str ⟨#[109, 101, 97, 115, 117, 114, 101, 115]⟩)])), (⟨#[102, 111, 114, 103, 101, 116]⟩, (.tup [(.str ⟨#[110, 97, 109, 101]⟩), (.str ⟨#[110, 97, 109, 101, 32, 111, 114, 32, 99, 104, 101, 115, 116]⟩), (.str ⟨#[109, 101, 97, 115, 117, 114, 101, 115]⟩)])), (⟨#[103, 111]⟩, (.tup [(.str ⟨#[110, 97, 109, 101]⟩)]))] (.var 1)) .nil))) .nil [3, 4]) .nil))) (.cons (.ret (.con (.bl false))) .nil) .nil) (.cons (.ret (.or (.cmp .NotIn (.var 1) (.con (.tup [(.str ⟨#[103, 105, 118, 101]⟩), (.str ⟨#[104, 97, 110, 100]⟩), (.str ⟨#[102, 111, 114, 103, 101, 116]⟩)]))) (.cmp .NotEq (.idx (.var 2) (.con (.int 0))) (.idx (.var 2) (.con (.int 1)))))) .nil)))))
/-! is_book -/
def I29e1 : E := (.call 28 (.cons (.var 1) .nil) .nil [.inl 0])
def I29 : Ss := (.cons (.ret (.and (.isi (.var 0) "tuple") (.and (.cmp .LtE (.blt .len (.cons (.var 0) .nil)) (.con (.int 60))) (.blt .all (.cons (.lc I29e1 (.name 1) (.val (.var 0)) .nil [1]) .nil))))) .nil)
/-! _law_is_deed -/
def I30b1 : Ss := (.cons (.iff (.cmp .Eq (.var 4) (.con (.str ⟨#[109]⟩))) (.cons (.iff (.or (.not (.isi (.var 3) "int")) (.or (.isi (.var 3) "bool") (.not (.chain .Lt .Lt (.con (.int 0)) (.var 3) (.con (.int 10000)))))) (.cons (.ret (.con (.bl false))) .nil) .nil) .nil) (.cons (.iff (.and (.not (.call 22 (.cons (.var 3) .nil) .nil [.inl 0])) (.not (.and (.cmp .Eq (.var 4) (.con (.str ⟨#[99]⟩))) (.and (.isi (.var 3) "str") (.cmp .Eq (.var 3) (.con (.str ⟨#[99, 104, 101, 115, 116]⟩))))))) (.cons (.ret (.con (.bl false))) .nil) .nil) .nil)) .nil)
def I30 : Ss := (.cons (.asg (.name 1) (.dcd (.cons (.con (.str ⟨#[99, 111, 109, 101]⟩)) (.cons (.con (.str ⟨#[110]⟩)) (.cons (.con (.str ⟨#[98, 114, 105, 110, 103]⟩)) (.cons (.con (.str ⟨#[110, 110, 109]⟩)) (.cons (.con (.str ⟨#[103, 105, 118, 101]⟩)) (.cons (.con (.str ⟨#[110, 110, 109]⟩)) (.cons (.con (.str ⟨#[104, 97, 110, 100]⟩)) (.cons (.con (.str ⟨#[110, 110, 110, 109]⟩)) (.cons (.con (.str ⟨#[102, 111, 114, 103, 101, 116]⟩)) (.cons (.con (.str ⟨#[110, 99, 109]⟩)) (.cons (.con (.str ⟨#[103, 111]⟩)) (.cons (.con (.str ⟨#[110]⟩)) .nil)))))))))))))) (.cons (.iff (.or (.not (.isi (.var 0) "tuple")) (.or (.cmp .Eq (.var 0) (.tup .nil)) (.or (.not (.isi (.idx (.var 0) (.con (.int 0))) "str")) (.cmp .NotIn (.idx (.var 0) (.con (.int 0))) (.var 1))))) (.cons (.ret (.con (.bl false))) .nil) .nil) (.cons (.asg (.name 2) (.idx (.var 1) (.idx (.var 0) (.con (.int 0))))) (.cons (.iff (.cmp .NotEq (.blt .len (.cons (.var 0) .nil)) (.bin .Add (.con (.int 1)) (.blt .len (.cons (.var 2) .nil)))) (.cons (.ret (.con (.bl false))) .nil) .nil) (.cons (.for_ (.tup (.cons (.name 3) (.cons (.name 4) .nil))) (.zip false (.cons (.slc (.var 0) (.some (.con (.int 1))) .none) (.cons (.var 2) .nil))) I30b1) (.cons (.ret (.or (.cmp .NotIn (.idx (.var 0) (.con (.int 0))) (.lst (.cons (.con (.str ⟨#[103, 105, 118, 101]⟩)) (.cons (.con (.str ⟨#[104, 97, 110, 100]⟩)) (.cons (.con (.str ⟨#[102, 111, 114, 103, 101, 116]⟩)) .nil))))) (.cmp .NotEq (.idx (.var 0) (.con (.int 1))) (.idx (.var 0) (.con (.int 2)))))) .nil))))))
/-! _law_deed -/
def I31e1 : E := (.idx (.con (.str ⟨#[97, 98, 99, 122]⟩)) (.call 14 (.cons (.var 0) (.cons (.con (.int 4)) .nil)) .nil [.inl 0, .inl 1]))
def I31e2 : E := (.meth .join (.con (.str ⟨#[]⟩)) (.cons (.lc I31e1 (.name 3) (.range1 (.bin .Add (.con (.int 1)) (.call 14 (.cons (.var 0) (.cons (.con (.int 3)) .nil)) .nil [.inl 0, .inl 1]))) .nil [3]) .nil))
def I31 : Ss := (.cons (.asg (.name 1) (.idx (.lst (.cons (.con (.str ⟨#[99, 111, 109, 101]⟩)) (.cons (.con (.str ⟨#[98, 114, 105, 110, 103]⟩)) (.cons (.con (.str ⟨#[103, 105, 118, 101]⟩)) (.cons (.con (.str ⟨#[104, 97, 110, 100]⟩)) (.cons (.con (.str ⟨#[102, 111, 114, 103, 101, 116]⟩)) (.cons (.con (.str ⟨#[103, 111]⟩)) .nil))))))) (.call 14 (.cons (.var 0) (.cons (.con (.int 6)) .nil)) .nil [.inl 0, .inl 1]))) (.cons (.asg (.name 2) (.lc I31e2 (.name 4) (.range1 (.con (.int 2))) .nil [4])) (.cons (.par [5, 6, 7] (.cons (.idx (.var 2) (.con (.int 0))) (.cons (.bin .Add (.idx (.var 2) (.con (.int 1))) (.con (.str ⟨#[121]⟩))) (.cons (.idx (.lst (.cons (.con (.int 1)) (.cons (.con (.int 9999)) (.cons (.bin .Add (.con (.int 1)) (.call 14 (.cons (.var 0) (.cons (.con (.int 9999)) .nil)) .nil [.inl 0, .inl 1])) .nil)))) (.call 14 (.cons (.var 0) (.cons (.con (.int 3)) .nil)) .nil [.inl 0, .inl 1])) .nil)))) (.cons (.iff (.cmp .In (.var 1) (.lst (.cons (.con (.str ⟨#[99, 111, 109, 101]⟩)) (.cons (.con (.str ⟨#[103, 111]⟩)) .nil)))) (.cons (.ret (.tup (.cons (.var 1) (.cons (.var 5) .nil)))) .nil) .nil) (.cons (.iff (.cmp .Eq (.var 1) (.con (.str ⟨#[98, 114, 105, 110, 103]⟩))) (.cons (.ret (.tup (.cons (.var 1) (.cons (.var 5) (.cons (.var 6) (.cons (.var 7) .nil)))))) .nil) .nil) (.cons (.iff (.and (.cmp .Eq (.var 1) (.con (.str ⟨#[102, 111, 114, 103, 101, 116]⟩))) (.cmp .Eq (.call 14 (.cons (.var 0) (.cons (.con (.int 4)) .nil)) .nil [.inl 0, .inl 1]) (.con (.int 0)))) (.cons (.asg (.name 6) (.con (.str ⟨#[99, 104, 101, 115, 116]⟩))) .nil) .nil) (.cons (.ret (.bin .Add (.bin .Add (.tup (.cons (.var 1) (.cons (.var 5) (.cons (.var 6) .nil)))) (.bin .Mult (.tup (.cons (.con (.str ⟨#[114, 121, 101]⟩)) .nil)) (.blt .intOf (.cons (.cmp .Eq (.var 1) (.con (.str ⟨#[104, 97, 110, 100]⟩))) .nil)))) (.tup (.cons (.var 7) .nil)))) .nil)))))))
/-! _law_odd -/
def I32 : Ss := (.cons (.asg (.name 2) (.lst (.cons (.con .non) (.cons (.con (.int 0)) (.cons (.con (.bl true)) (.cons (.con (.str ⟨#[]⟩)) (.cons (.con (.str ⟨#[99, 111, 109, 101, 32, 97, 110, 110]⟩)) (.cons (.tup .nil) (.cons (.lst .nil) (.cons .dct0 (.cons (.blt .listOf (.cons (.var 1) .nil)) (.cons (.slc (.var 1) .none (.some (.con (.int 1)))) (.cons (.bin .Add (.var 1) (.tup (.cons (.con (.int 1)) .nil))) (.cons (.tup (.cons (.var 1) .nil)) (.cons (.tup (.cons (.con (.str ⟨#[99, 111, 109, 101]⟩)) (.cons (.con (.str ⟨#[65, 110, 110]⟩)) .nil))) .nil))))))))))))))) (.cons (.asg (.name 2) (.bin .Add (.var 2) (.lst (.cons (.tup (.cons (.con (.str ⟨#[103, 105, 118, 101]⟩)) (.cons (.con (.str ⟨#[97, 110, 110]⟩)) (.cons (.con (.str ⟨#[97, 110, 110]⟩)) (.cons (.con (.int 3)) .nil))))) (.cons (.tup (.cons (.con (.str ⟨#[103, 111]⟩)) (.cons (.con (.str ⟨#[99, 104, 101, 115, 116]⟩)) .nil))) (.cons (.tup (.cons (.con (.str ⟨#[98, 114, 105, 110, 103]⟩)) (.cons (.con (.str ⟨#[97, 110, 110]⟩)) (.cons (.con (.str ⟨#[114, 121, 101]⟩)) (.cons (.con (.int 0)) .nil))))) (.cons (.tup (.cons (.con (.str ⟨#[102, 111, 114, 103, 101, 116]⟩)) (.cons (.con (.str ⟨#[97]⟩)) (.cons (.con (.str ⟨#[98]⟩)) (.cons (.con (.bl true)) .nil))))) .nil))))))) (.cons (.ret (.idx (.var 2) (.call 14 (.cons (.var 0) (.cons (.con (.int 17)) .nil)) .nil [.inl 0, .inl 1]))) .nil)))
/-! _law_books -/
def I33e1 : E := (.call 31 (.cons (.var 0) .nil) .nil [.inl 0])
def I33 : Ss := (.cons (.asg (.name 1) (.idx (.lst (.cons (.call 14 (.cons (.var 0) (.cons (.con (.int 11)) .nil)) .nil [.inl 0, .inl 1]) (.cons (.con (.int 60)) (.cons (.con (.int 61)) .nil)))) (.idx (.lst (.cons (.con (.int 0)) (.cons (.con (.int 0)) (.cons (.con (.int 0)) (.cons (.con (.int 0)) (.cons (.con (.int 0)) (.cons (.con (.int 0)) (.cons (.con (.int 1)) (.cons (.con (.int 2)) .nil))))))))) (.call 14 (.cons (.var 0) (.cons (.con (.int 8)) .nil)) .nil [.inl 0, .inl 1])))) (.cons (.asg (.name 2) (.blt .tupleOf (.cons (.lc I33e1 (.name 3) (.range1 (.var 1)) .nil [3]) .nil))) (.cons (.par [4, 5] (.cons (.call 14 (.cons (.var 0) (.cons (.bin .Add (.blt .len (.cons (.var 2) .nil)) (.con (.int 1))) .nil)) .nil [.inl 0, .inl 1]) (.cons (.call 31 (.cons (.var 0) .nil) .nil [.inl 0]) .nil))) (.cons (.asg (.name 6) (.lst (.cons (.var 2) (.cons (.bin .Add (.bin .Add (.slc (.var 2) .none (.some (.var 4))) (.tup (.cons (.call 32 (.cons (.var 0) (.cons (.var 5) .nil)) .nil [.inl 0, .inl 1]) .nil))) (.slc (.var 2) (.some (.var 4)) .none)) (.cons (.bin .Add (.bin .Add (.slc (.var 2) .none (.some (.var 4))) (.tup (.cons (.var 5) .nil))) (.slc (.var 2) (.some (.var 4)) .none)) .nil))))) (.cons (.asg (.name 6) (.bin .Add (.var 6) (.lst (.cons (.bin .Add (.bin .Add (.slc (.var 2) .none (.some (.var 4))) (.tup (.cons (.call 32 (.cons (.var 0) (.cons (.var 5) .nil)) .nil [.inl 0, .inl 1]) .nil))) (.slc (.var 2) (.some (.bin .Add (.var 4) (.con (.int 1)))) .none)) (.cons (.bin .Add (.slc (.var 2) .none (.some (.var 4))) (.slc (.var 2) (.some (.bin .Add (.var 4) (.con (.int 1)))) .none)) (.cons (.blt .listOf (.cons (.var 2) .nil)) .nil)))))) (.cons (.ret (.bin .Add (.var 6) (.lst (.cons (.tup (.cons (.var 2) .nil)) (.cons (.bin .Add (.var 2) (.var 2)) (.cons (.var 5) (.cons (.bin .Mult (.tup (.cons (.var 5) .nil)) (.con (.int 60))) (.cons (.bin .Mult (.tup (.cons (.var 5) .nil)) (.con (.int 61))) .nil)))))))) .nil))))))
/-! _law_right -/
def I34e1 : E := (.call 30 (.cons (.var 2) .nil) .nil [.inl 0])
def I34b1 : Ss := (.cons (.iff (.or (.not (.isi (.var 3) "bool")) (.cmp .NotEq (.var 3) (.var 1))) (.cons (.ret (.con (.bl false))) .nil) .nil) .nil)
def I34 : Ss := (.cons (.asg (.name 1) (.and (.isi (.var 0) "tuple") (.and (.cmp .Lt (.blt .len (.cons (.var 0) .nil)) (.con (.int 61))) (.blt .all (.cons (.lc I34e1 (.name 2) (.val (.var 0)) .nil [2]) .nil))))) (.cons (.for_ (.name 3) (.val (.lst (.cons (.call 29 (.cons (.var 0) .nil) .nil [.inl 0]) (.cons (.call 29 .nil (.cons (.var 0) .nil) [.inl 0]) (.cons (.call 29 (.cons (.var 0) .nil) .nil [.inl 0]) .nil))))) I34b1) (.cons (.ret (.con (.bl true))) .nil)))
/-! law -/
def I35e1 : E := (.call 34 (.cons (.var 2) .nil) .nil [.inl 0])
def I35e2 : E := (.call 34 (.cons (.var 2) .nil) .nil [.inl 0])
def I35b1 : Ss := (.cons (.asg (.name 4) (.call 13 (.cons (.call 12 (.cons (.var 0) (.cons (.var 3) .nil)) .nil [.inl 0, .inl 1]) .nil) .nil [.inl 0])) (.cons (.iff (.not (.blt .all (.cons (.lc I35e2 (.name 2) (.val (.call 33 (.cons (.var 4) .nil) .nil [.inl 0])) .nil [2]) .nil))) (.cons (.ret (.con (.bl false))) .nil) .nil) .nil))
def I35 : Ss := (.cons (.asg (.name 1) (.lst (.cons (.con .non) (.cons (.con (.int 0)) (.cons (.con (.bl true)) (.cons (.con (.str ⟨#[]⟩)) (.cons (.con (.str ⟨#[99, 111, 109, 101, 32, 97, 110, 110]⟩)) (.cons (.tup .nil) (.cons (.lst .nil) (.cons .dct0 (.cons (.tup (.cons (.tup .nil) .nil)) (.cons (.tup (.cons (.lst .nil) .nil)) (.cons (.bin .Mult (.tup (.cons (.tup (.cons (.con (.str ⟨#[103, 111]⟩)) (.cons (.con (.str ⟨#[97, 110, 110]⟩)) .nil))) .nil)) (.con (.int 60))) (.cons (.bin .Mult (.tup (.cons (.tup (.cons (.con (.str ⟨#[103, 111]⟩)) (.cons (.con (.str ⟨#[97, 110, 110]⟩)) .nil))) .nil)) (.con (.int 61))) .nil)))))))))))))) (.cons (.asg (.name 1) (.bin .Add (.var 1) (.lst (.cons (.tup (.cons (.tup (.cons (.con (.str ⟨#[103, 111]⟩)) (.cons (.con (.str ⟨#[97, 110, 110]⟩)) .nil))) (.cons (.tup (.cons (.con (.str ⟨#[103, 111]⟩)) (.cons (.con (.str ⟨#[97, 110, 110]⟩)) .nil))) .nil))) (.cons (.lst (.cons (.tup (.cons (.con (.str ⟨#[103, 111]⟩)) (.cons (.con (.str ⟨#[97, 110, 110]⟩)) .nil))) .nil)) (.cons (.tup (.cons (.con (.str ⟨#[103, 111]⟩)) (.cons (.con (.str ⟨#[97, 110, 110]⟩)) .nil))) (.cons (.tup (.cons (.lst (.cons (.con (.str ⟨#[103, 111]⟩)) (.cons (.con (.str ⟨#[97, 110, 110]⟩)) .nil))) .nil)) .nil))))))) (.cons (.iff (.not (.blt .all (.cons (.lc I35e1 (.name 2) (.val (.var 1)) .nil [2]) .nil))) (.cons (.ret (.con (.bl false))) .nil) .nil) (.cons (.for_ (.name 3) (.range1 (.blt .max2 (.cons (.con (.int 2)) (.cons (.blt .min2 (.cons (.blt .len (.cons (.var 0) .nil)) (.cons (.con (.int 6)) .nil))) .nil)))) I35b1) (.cons (.ret (.con (.bl true))) .nil)))))
def TL05 : Tbl := fun i => match i with
  | 21 => some (2, I21)
  | 22 => some (2, I22)
  | 26 => some (3, I26)
  | 27 => some (2, I27)
  | 28 => some (5, I28)
  | 29 => some (2, I29)
  | 30 => some (5, I30)
  | 31 => some (8, I31)
  | 32 => some (3, I32)
  | 33 => some (7, I33)
  | 34 => some (4, I34)
  | 35 => some (5, I35)
  | _ => none
end TW
namespace TW
open PySem PySem.Spec PyProof.Rows L2
theorem c_eq_ss (a b : Str) : cmpD .Eq (.str a) (.str b) = some (a == b) := id rfl
theorem c_ne_ss (a b : Str) : cmpD .NotEq (.str a) (.str b) = some (!(a == b)) := id rfl
theorem c_in_ss (a b : Str) : cmpD .In (.str a) (.str b) = some (strIn a b) := id rfl
def chestS : Str := ⟨#[99, 104, 101, 115, 116]⟩
def lettS : Str := ⟨#[97, 98, 99, 100, 101, 102, 103, 104, 105, 106, 107, 108, 109, 110, 111, 112, 113, 114, 115, 116, 117, 118, 119, 120, 121, 122]⟩
def wholeD (x : D) (lo hi : Int) : Bool := match x with
  | .int i => decide (lo ≤ i) && decide (i ≤ hi)
  | _ => false
def lettersOk (s : Str) : Bool := s.cps.toList.all fun c => strIn ⟨#[c]⟩ lettS
def nameS (s : Str) : Bool := (decide ((1 : Int) ≤ s.length) && decide ((s.length : Int) ≤ 8)) && (!(s == chestS) && lettersOk s)
def nameD : D → Bool
  | .str s => nameS s
  | _ => false
section
variable {t : Tbl} (T : Sub TC t) (L : Sub TL05 t) (k : Nat) {st : Sto}
include T L
theorem whole_ok (x : D) (lo hi : Int) : Fn t (k + 1) 26 [.d x, .d (.int lo), .d (.int hi)] st = .ok (.d (.bl (wholeD x lo hi))) st := by
  rw [fn_at L rfl]
  simp only [runF, startE, I26, List.map_cons, List.map_nil, List.length_cons, List.length_nil, List.replicate, List.cons_append, List.nil_append, List.append_nil, Nat.reduceAdd, Nat.reduceSub, Nat.zero_add,
      e_var, e_con, e_bin, k_bin1, k_bin2, e_neg, k_neg, e_not, k_not, e_and, k_and, e_or, k_or, e_cmp, k_cmp1, k_cmp2, e_chain, k_ch1, k_ch2, e_ite, k_ite, e_call, k_call1, k_call2, e_blt, k_blt, e_meth, k_meth1, k_meth2, e_tup, e_lst, e_dct0, e_dcd, e_idx, k_idx1, k_idx2, e_slc, k_slc1, k_slc2, k_slc3, o_none, o_some, k_o, e_new, k_new, e_lc, k_lc, lc_g, es_nil, es_cons, k_es1, k_es2, t_nil, t_cons, k_t, i_val, i_range, i_enum, k_ent, k_enl, enumD, s_par, k_par, setAll, k_body, k_turn, k_ivl, k_ivt, k_ivs,
      g_name, g_tup, g_sub, k_sub1, gs_nil, gs_cons, k_gs, s_asg, k_asg1, k_nx, s_expr, k_expr, s_ret, k_ret, s_iff, k_if, s_for, k_for, s_aug, s_pass, ss_nil, ss_cons, k_ss, bind_ok, bind_exc, bind_stuck, go_ok, go_exc, seq_nx, seq_rt, seq_exc, turn_nx, turn_rt, turn_exc, calm_ok', end_d, end_nx, end_exc, tru_bl, give, give_b, ders, der, arrD, List.getElem?_cons_zero, List.getElem?_cons_succ, List.set_cons_zero, List.set_cons_succ, if_true, if_false, Bool.false_eq_true, Bool.not_true, Bool.not_false, List.take_length,
      e_isi, k_isi, e_tin, k_tinP, k_tinN, e_tget, k_tget, g_star, i_zip, is_int_non, is_int_bl, is_int_int, is_int_str, is_int_tup, is_int_lst, is_int_dct, is_str_non, is_str_bl, is_str_int, is_str_str, is_str_tup, is_str_lst, is_str_dct, is_bool_non, is_bool_bl, is_bool_int, is_bool_str, is_bool_tup, is_bool_lst, is_bool_dct, is_tuple_non, is_tuple_bl, is_tuple_int, is_tuple_str, is_tuple_tup, is_tuple_lst, is_tuple_dct, is_list_non, is_list_bl, is_list_int, is_list_str, is_list_tup, is_list_lst, is_list_dct, is_dict_non, is_dict_bl, is_dict_int, is_dict_str, is_dict_tup, is_dict_lst, is_dict_dct,
      bfD, len_s, len_l, len_t, c_eq_ii, c_ne_ii, c_lt_ii, c_le_ii, c_gt_ii, c_ge_ii, c_is_non, c_isn_non, noneD, Int.cast_ofNat_Int, Int.reduceEq, Int.reduceLT, Int.reduceLE, decide_true, decide_false, kTup, kLst, pures, sizeLine_eq, Nat.reduceLeDiff, g_tupq, idx_q0, idx_q1, is_tuple_q, len_q, k_ivq]
  cases x <;> simp only [List.map_cons, List.map_nil, List.length_cons, List.length_nil, List.replicate, List.cons_append, List.nil_append, List.append_nil, Nat.reduceAdd, Nat.reduceSub, Nat.zero_add,
      e_var, e_con, e_bin, k_bin1, k_bin2, e_neg, k_neg, e_not, k_not, e_and, k_and, e_or, k_or, e_cmp, k_cmp1, k_cmp2, e_chain, k_ch1, k_ch2, e_ite, k_ite, e_call, k_call1, k_call2, e_blt, k_blt, e_meth, k_meth1, k_meth2, e_tup, e_lst, e_dct0, e_dcd, e_idx, k_idx1, k_idx2, e_slc, k_slc1, k_slc2, k_slc3, o_none, o_some, k_o, e_new, k_new, e_lc, k_lc, lc_g, es_nil, es_cons, k_es1, k_es2, t_nil, t_cons, k_t, i_val, i_range, i_enum, k_ent, k_enl, enumD, s_par, k_par, setAll, k_body, k_turn, k_ivl, k_ivt, k_ivs,
      g_name, g_tup, g_sub, k_sub1, gs_nil, gs_cons, k_gs, s_asg, k_asg1, k_nx, s_expr, k_expr, s_ret, k_ret, s_iff, k_if, s_for, k_for, s_aug, s_pass, ss_nil, ss_cons, k_ss, bind_ok, bind_exc, bind_stuck, go_ok, go_exc, seq_nx, seq_rt, seq_exc, turn_nx, turn_rt, turn_exc, calm_ok', end_d, end_nx, end_exc, tru_bl, give, give_b, ders, der, arrD, List.getElem?_cons_zero, List.getElem?_cons_succ, List.set_cons_zero, List.set_cons_succ, if_true, if_false, Bool.false_eq_true, Bool.not_true, Bool.not_false, List.take_length,
      e_isi, k_isi, e_tin, k_tinP, k_tinN, e_tget, k_tget, g_star, i_zip, is_int_non, is_int_bl, is_int_int, is_int_str, is_int_tup, is_int_lst, is_int_dct, is_str_non, is_str_bl, is_str_int, is_str_str, is_str_tup, is_str_lst, is_str_dct, is_bool_non, is_bool_bl, is_bool_int, is_bool_str, is_bool_tup, is_bool_lst, is_bool_dct, is_tuple_non, is_tuple_bl, is_tuple_int, is_tuple_str, is_tuple_tup, is_tuple_lst, is_tuple_dct, is_list_non, is_list_bl, is_list_int, is_list_str, is_list_tup, is_list_lst, is_list_dct, is_dict_non, is_dict_bl, is_dict_int, is_dict_str, is_dict_tup, is_dict_lst, is_dict_dct,
      bfD, len_s, len_l, len_t, c_eq_ii, c_ne_ii, c_lt_ii, c_le_ii, c_gt_ii, c_ge_ii, c_is_non, c_isn_non, noneD, Int.cast_ofNat_Int, Int.reduceEq, Int.reduceLT, Int.reduceLE, decide_true, decide_false, kTup, kLst, pures, sizeLine_eq, Nat.reduceLeDiff, g_tupq, idx_q0, idx_q1, is_tuple_q, len_q, k_ivq, wholeD]
  rename_i i
  cases h : decide (lo ≤ i) <;> simp only [List.map_cons, List.map_nil, List.length_cons, List.length_nil, List.replicate, List.cons_append, List.nil_append, List.append_nil, Nat.reduceAdd, Nat.reduceSub, Nat.zero_add,
      e_var, e_con, e_bin, k_bin1, k_bin2, e_neg, k_neg, e_not, k_not, e_and, k_and, e_or, k_or, e_cmp, k_cmp1, k_cmp2, e_chain, k_ch1, k_ch2, e_ite, k_ite, e_call, k_call1, k_call2, e_blt, k_blt, e_meth, k_meth1, k_meth2, e_tup, e_lst, e_dct0, e_dcd, e_idx, k_idx1, k_idx2, e_slc, k_slc1, k_slc2, k_slc3, o_none, o_some, k_o, e_new, k_new, e_lc, k_lc, lc_g, es_nil, es_cons, k_es1, k_es2, t_nil, t_cons, k_t, i_val, i_range, i_enum, k_ent, k_enl, enumD, s_par, k_par, setAll, k_body, k_turn, k_ivl, k_ivt, k_ivs,
      g_name, g_tup, g_sub, k_sub1, gs_nil, gs_cons, k_gs, s_asg, k_asg1, k_nx, s_expr, k_expr, s_ret, k_ret, s_iff, k_if, s_for, k_for, s_aug, s_pass, ss_nil, ss_cons, k_ss, bind_ok, bind_exc, bind_stuck, go_ok, go_exc, seq_nx, seq_rt, seq_exc, turn_nx, turn_rt, turn_exc, calm_ok', end_d, end_nx, end_exc, tru_bl, give, give_b, ders, der, arrD, List.getElem?_cons_zero, List.getElem?_cons_succ, List.set_cons_zero, List.set_cons_succ, if_true, if_false, Bool.false_eq_true, Bool.not_true, Bool.not_false, List.take_length,
      e_isi, k_isi, e_tin, k_tinP, k_tinN, e_tget, k_tget, g_star, i_zip, is_int_non, is_int_bl, is_int_int, is_int_str, is_int_tup, is_int_lst, is_int_dct, is_str_non, is_str_bl, is_str_int, is_str_str, is_str_tup, is_str_lst, is_str_dct, is_bool_non, is_bool_bl, is_bool_int, is_bool_str, is_bool_tup, is_bool_lst, is_bool_dct, is_tuple_non, is_tuple_bl, is_tuple_int, is_tuple_str, is_tuple_tup, is_tuple_lst, is_tuple_dct, is_list_non, is_list_bl, is_list_int, is_list_str, is_list_tup, is_list_lst, is_list_dct, is_dict_non, is_dict_bl, is_dict_int, is_dict_str, is_dict_tup, is_dict_lst, is_dict_dct,
      bfD, len_s, len_l, len_t, c_eq_ii, c_ne_ii, c_lt_ii, c_le_ii, c_gt_ii, c_ge_ii, c_is_non, c_isn_non, noneD, Int.cast_ofNat_Int, Int.reduceEq, Int.reduceLT, Int.reduceLE, decide_true, decide_false, kTup, kLst, pures, sizeLine_eq, Nat.reduceLeDiff, g_tupq, idx_q0, idx_q1, is_tuple_q, len_q, k_ivq, h, Bool.true_and, Bool.false_and]
theorem lett_lc {F : Fs} {el : E} {en : En} {i : Nat} (s : Str) (h : ∀ c : Nat, evE F el (en.set i (some (.d (.str ⟨#[c]⟩)))) st = .ok (.d (.bl (strIn ⟨#[c]⟩ lettS))) st) :
    lcLoop [] (lcG F (.name i)) (evT F .nil) (evE F el) en (s.cps.toList.map fun c => D.str ⟨#[c]⟩) [] st = .ok (.d (.lst (s.cps.toList.map fun c => .bl (strIn ⟨#[c]⟩ lettS)))) st :=
  lc_enc (e := fun c => D.str ⟨#[c]⟩) (f := fun c => D.bl (strIn ⟨#[c]⟩ lettS)) s.cps.toList [] fun c _ => ⟨_, lcg_name F i _ en st, rfl, h c⟩
theorem is_name_ok (x : D) : Fn t (k + 1) 21 [.d x] st = .ok (.d (.bl (nameD x))) st := by
  rw [fn_at L rfl]
  simp only [runF, startE, I21, List.map_cons, List.map_nil, List.length_cons, List.length_nil, List.replicate, List.cons_append, List.nil_append, List.append_nil, Nat.reduceAdd, Nat.reduceSub, Nat.zero_add,
      e_var, e_con, e_bin, k_bin1, k_bin2, e_neg, k_neg, e_not, k_not, e_and, k_and, e_or, k_or, e_cmp, k_cmp1, k_cmp2, e_chain, k_ch1, k_ch2, e_ite, k_ite, e_call, k_call1, k_call2, e_blt, k_blt, e_meth, k_meth1, k_meth2, e_tup, e_lst, e_dct0, e_dcd, e_idx, k_idx1, k_idx2, e_slc, k_slc1, k_slc2, k_slc3, o_none, o_some, k_o, e_new, k_new, e_lc, k_lc, lc_g, es_nil, es_cons, k_es1, k_es2, t_nil, t_cons, k_t, i_val, i_range, i_enum, k_ent, k_enl, enumD, s_par, k_par, setAll, k_body, k_turn, k_ivl, k_ivt, k_ivs,
      g_name, g_tup, g_sub, k_sub1, gs_nil, gs_cons, k_gs, s_asg, k_asg1, k_nx, s_expr, k_expr, s_ret, k_ret, s_iff, k_if, s_for, k_for, s_aug, s_pass, ss_nil, ss_cons, k_ss, bind_ok, bind_exc, bind_stuck, go_ok, go_exc, seq_nx, seq_rt, seq_exc, turn_nx, turn_rt, turn_exc, calm_ok', end_d, end_nx, end_exc, tru_bl, give, give_b, ders, der, arrD, List.getElem?_cons_zero, List.getElem?_cons_succ, List.set_cons_zero, List.set_cons_succ, if_true, if_false, Bool.false_eq_true, Bool.not_true, Bool.not_false, List.take_length,
      e_isi, k_isi, e_tin, k_tinP, k_tinN, e_tget, k_tget, g_star, i_zip, is_int_non, is_int_bl, is_int_int, is_int_str, is_int_tup, is_int_lst, is_int_dct, is_str_non, is_str_bl, is_str_int, is_str_str, is_str_tup, is_str_lst, is_str_dct, is_bool_non, is_bool_bl, is_bool_int, is_bool_str, is_bool_tup, is_bool_lst, is_bool_dct, is_tuple_non, is_tuple_bl, is_tuple_int, is_tuple_str, is_tuple_tup, is_tuple_lst, is_tuple_dct, is_list_non, is_list_bl, is_list_int, is_list_str, is_list_tup, is_list_lst, is_list_dct, is_dict_non, is_dict_bl, is_dict_int, is_dict_str, is_dict_tup, is_dict_lst, is_dict_dct,
      bfD, len_s, len_l, len_t, c_eq_ii, c_ne_ii, c_lt_ii, c_le_ii, c_gt_ii, c_ge_ii, c_is_non, c_isn_non, noneD, Int.cast_ofNat_Int, Int.reduceEq, Int.reduceLT, Int.reduceLE, decide_true, decide_false, kTup, kLst, pures, sizeLine_eq, Nat.reduceLeDiff, g_tupq, idx_q0, idx_q1, is_tuple_q, len_q, k_ivq]
  cases x <;> simp only [List.map_cons, List.map_nil, List.length_cons, List.length_nil, List.replicate, List.cons_append, List.nil_append, List.append_nil, Nat.reduceAdd, Nat.reduceSub, Nat.zero_add,
      e_var, e_con, e_bin, k_bin1, k_bin2, e_neg, k_neg, e_not, k_not, e_and, k_and, e_or, k_or, e_cmp, k_cmp1, k_cmp2, e_chain, k_ch1, k_ch2, e_ite, k_ite, e_call, k_call1, k_call2, e_blt, k_blt, e_meth, k_meth1, k_meth2, e_tup, e_lst, e_dct0, e_dcd, e_idx, k_idx1, k_idx2, e_slc, k_slc1, k_slc2, k_slc3, o_none, o_some, k_o, e_new, k_new, e_lc, k_lc, lc_g, es_nil, es_cons, k_es1, k_es2, t_nil, t_cons, k_t, i_val, i_range, i_enum, k_ent, k_enl, enumD, s_par, k_par, setAll, k_body, k_turn, k_ivl, k_ivt, k_ivs,
      g_name, g_tup, g_sub, k_sub1, gs_nil, gs_cons, k_gs, s_asg, k_asg1, k_nx, s_expr, k_expr, s_ret, k_ret, s_iff, k_if, s_for, k_for, s_aug, s_pass, ss_nil, ss_cons, k_ss, bind_ok, bind_exc, bind_stuck, go_ok, go_exc, seq_nx, seq_rt, seq_exc, turn_nx, turn_rt, turn_exc, calm_ok', end_d, end_nx, end_exc, tru_bl, give, give_b, ders, der, arrD, List.getElem?_cons_zero, List.getElem?_cons_succ, List.set_cons_zero, List.set_cons_succ, if_true, if_false, Bool.false_eq_true, Bool.not_true, Bool.not_false, List.take_length,
      e_isi, k_isi, e_tin, k_tinP, k_tinN, e_tget, k_tget, g_star, i_zip, is_int_non, is_int_bl, is_int_int, is_int_str, is_int_tup, is_int_lst, is_int_dct, is_str_non, is_str_bl, is_str_int, is_str_str, is_str_tup, is_str_lst, is_str_dct, is_bool_non, is_bool_bl, is_bool_int, is_bool_str, is_bool_tup, is_bool_lst, is_bool_dct, is_tuple_non, is_tuple_bl, is_tuple_int, is_tuple_str, is_tuple_tup, is_tuple_lst, is_tuple_dct, is_list_non, is_list_bl, is_list_int, is_list_str, is_list_tup, is_list_lst, is_list_dct, is_dict_non, is_dict_bl, is_dict_int, is_dict_str, is_dict_tup, is_dict_lst, is_dict_dct,
      bfD, len_s, len_l, len_t, c_eq_ii, c_ne_ii, c_lt_ii, c_le_ii, c_gt_ii, c_ge_ii, c_is_non, c_isn_non, noneD, Int.cast_ofNat_Int, Int.reduceEq, Int.reduceLT, Int.reduceLE, decide_true, decide_false, kTup, kLst, pures, sizeLine_eq, Nat.reduceLeDiff, g_tupq, idx_q0, idx_q1, is_tuple_q, len_q, k_ivq, nameD]
  rename_i s
  unfold nameS
  cases h1 : decide ((1 : Int) ≤ s.length) <;> simp only [List.map_cons, List.map_nil, List.length_cons, List.length_nil, List.replicate, List.cons_append, List.nil_append, List.append_nil, Nat.reduceAdd, Nat.reduceSub, Nat.zero_add,
      e_var, e_con, e_bin, k_bin1, k_bin2, e_neg, k_neg, e_not, k_not, e_and, k_and, e_or, k_or, e_cmp, k_cmp1, k_cmp2, e_chain, k_ch1, k_ch2, e_ite, k_ite, e_call, k_call1, k_call2, e_blt, k_blt, e_meth, k_meth1, k_meth2, e_tup, e_lst, e_dct0, e_dcd, e_idx, k_idx1, k_idx2, e_slc, k_slc1, k_slc2, k_slc3, o_none, o_some, k_o, e_new, k_new, e_lc, k_lc, lc_g, es_nil, es_cons, k_es1, k_es2, t_nil, t_cons, k_t, i_val, i_range, i_enum, k_ent, k_enl, enumD, s_par, k_par, setAll, k_body, k_turn, k_ivl, k_ivt, k_ivs,
      g_name, g_tup, g_sub, k_sub1, gs_nil, gs_cons, k_gs, s_asg, k_asg1, k_nx, s_expr, k_expr, s_ret, k_ret, s_iff, k_if, s_for, k_for, s_aug, s_pass, ss_nil, ss_cons, k_ss, bind_ok, bind_exc, bind_stuck, go_ok, go_exc, seq_nx, seq_rt, seq_exc, turn_nx, turn_rt, turn_exc, calm_ok', end_d, end_nx, end_exc, tru_bl, give, give_b, ders, der, arrD, List.getElem?_cons_zero, List.getElem?_cons_succ, List.set_cons_zero, List.set_cons_succ, if_true, if_false, Bool.false_eq_true, Bool.not_true, Bool.not_false, List.take_length,
      e_isi, k_isi, e_tin, k_tinP, k_tinN, e_tget, k_tget, g_star, i_zip, is_int_non, is_int_bl, is_int_int, is_int_str, is_int_tup, is_int_lst, is_int_dct, is_str_non, is_str_bl, is_str_int, is_str_str, is_str_tup, is_str_lst, is_str_dct, is_bool_non, is_bool_bl, is_bool_int, is_bool_str, is_bool_tup, is_bool_lst, is_bool_dct, is_tuple_non, is_tuple_bl, is_tuple_int, is_tuple_str, is_tuple_tup, is_tuple_lst, is_tuple_dct, is_list_non, is_list_bl, is_list_int, is_list_str, is_list_tup, is_list_lst, is_list_dct, is_dict_non, is_dict_bl, is_dict_int, is_dict_str, is_dict_tup, is_dict_lst, is_dict_dct,
      bfD, len_s, len_l, len_t, c_eq_ii, c_ne_ii, c_lt_ii, c_le_ii, c_gt_ii, c_ge_ii, c_is_non, c_isn_non, noneD, Int.cast_ofNat_Int, Int.reduceEq, Int.reduceLT, Int.reduceLE, decide_true, decide_false, kTup, kLst, pures, sizeLine_eq, Nat.reduceLeDiff, g_tupq, idx_q0, idx_q1, is_tuple_q, len_q, k_ivq, h1, Bool.true_and, Bool.false_and]
  cases h2 : decide ((s.length : Int) ≤ 8) <;> simp only [List.map_cons, List.map_nil, List.length_cons, List.length_nil, List.replicate, List.cons_append, List.nil_append, List.append_nil, Nat.reduceAdd, Nat.reduceSub, Nat.zero_add,
      e_var, e_con, e_bin, k_bin1, k_bin2, e_neg, k_neg, e_not, k_not, e_and, k_and, e_or, k_or, e_cmp, k_cmp1, k_cmp2, e_chain, k_ch1, k_ch2, e_ite, k_ite, e_call, k_call1, k_call2, e_blt, k_blt, e_meth, k_meth1, k_meth2, e_tup, e_lst, e_dct0, e_dcd, e_idx, k_idx1, k_idx2, e_slc, k_slc1, k_slc2, k_slc3, o_none, o_some, k_o, e_new, k_new, e_lc, k_lc, lc_g, es_nil, es_cons, k_es1, k_es2, t_nil, t_cons, k_t, i_val, i_range, i_enum, k_ent, k_enl, enumD, s_par, k_par, setAll, k_body, k_turn, k_ivl, k_ivt, k_ivs,
      g_name, g_tup, g_sub, k_sub1, gs_nil, gs_cons, k_gs, s_asg, k_asg1, k_nx, s_expr, k_expr, s_ret, k_ret, s_iff, k_if, s_for, k_for, s_aug, s_pass, ss_nil, ss_cons, k_ss, bind_ok, bind_exc, bind_stuck, go_ok, go_exc, seq_nx, seq_rt, seq_exc, turn_nx, turn_rt, turn_exc, calm_ok', end_d, end_nx, end_exc, tru_bl, give, give_b, ders, der, arrD, List.getElem?_cons_zero, List.getElem?_cons_succ, List.set_cons_zero, List.set_cons_succ, if_true, if_false, Bool.false_eq_true, Bool.not_true, Bool.not_false, List.take_length,
      e_isi, k_isi, e_tin, k_tinP, k_tinN, e_tget, k_tget, g_star, i_zip, is_int_non, is_int_bl, is_int_int, is_int_str, is_int_tup, is_int_lst, is_int_dct, is_str_non, is_str_bl, is_str_int, is_str_str, is_str_tup, is_str_lst, is_str_dct, is_bool_non, is_bool_bl, is_bool_int, is_bool_str, is_bool_tup, is_bool_lst, is_bool_dct, is_tuple_non, is_tuple_bl, is_tuple_int, is_tuple_str, is_tuple_tup, is_tuple_lst, is_tuple_dct, is_list_non, is_list_bl, is_list_int, is_list_str, is_list_tup, is_list_lst, is_list_dct, is_dict_non, is_dict_bl, is_dict_int, is_dict_str, is_dict_tup, is_dict_lst, is_dict_dct,
      bfD, len_s, len_l, len_t, c_eq_ii, c_ne_ii, c_lt_ii, c_le_ii, c_gt_ii, c_ge_ii, c_is_non, c_isn_non, noneD, Int.cast_ofNat_Int, Int.reduceEq, Int.reduceLT, Int.reduceLE, decide_true, decide_false, kTup, kLst, pures, sizeLine_eq, Nat.reduceLeDiff, g_tupq, idx_q0, idx_q1, is_tuple_q, len_q, k_ivq, h2, Bool.true_and, Bool.false_and]
  have h3 : (s == chestS) = (s == ⟨#[99, 104, 101, 115, 116]⟩) := rfl
  rw [h3]
  simp only [c_ne_ss, List.map_cons, List.map_nil, List.length_cons, List.length_nil, List.replicate, List.cons_append, List.nil_append, List.append_nil, Nat.reduceAdd, Nat.reduceSub, Nat.zero_add,
      e_var, e_con, e_bin, k_bin1, k_bin2, e_neg, k_neg, e_not, k_not, e_and, k_and, e_or, k_or, e_cmp, k_cmp1, k_cmp2, e_chain, k_ch1, k_ch2, e_ite, k_ite, e_call, k_call1, k_call2, e_blt, k_blt, e_meth, k_meth1, k_meth2, e_tup, e_lst, e_dct0, e_dcd, e_idx, k_idx1, k_idx2, e_slc, k_slc1, k_slc2, k_slc3, o_none, o_some, k_o, e_new, k_new, e_lc, k_lc, lc_g, es_nil, es_cons, k_es1, k_es2, t_nil, t_cons, k_t, i_val, i_range, i_enum, k_ent, k_enl, enumD, s_par, k_par, setAll, k_body, k_turn, k_ivl, k_ivt, k_ivs,
      g_name, g_tup, g_sub, k_sub1, gs_nil, gs_cons, k_gs, s_asg, k_asg1, k_nx, s_expr, k_expr, s_ret, k_ret, s_iff, k_if, s_for, k_for, s_aug, s_pass, ss_nil, ss_cons, k_ss, bind_ok, bind_exc, bind_stuck, go_ok, go_exc, seq_nx, seq_rt, seq_exc, turn_nx, turn_rt, turn_exc, calm_ok', end_d, end_nx, end_exc, tru_bl, give, give_b, ders, der, arrD, List.getElem?_cons_zero, List.getElem?_cons_succ, List.set_cons_zero, List.set_cons_succ, if_true, if_false, Bool.false_eq_true, Bool.not_true, Bool.not_false, List.take_length,
      e_isi, k_isi, e_tin, k_tinP, k_tinN, e_tget, k_tget, g_star, i_zip, is_int_non, is_int_bl, is_int_int, is_int_str, is_int_tup, is_int_lst, is_int_dct, is_str_non, is_str_bl, is_str_int, is_str_str, is_str_tup, is_str_lst, is_str_dct, is_bool_non, is_bool_bl, is_bool_int, is_bool_str, is_bool_tup, is_bool_lst, is_bool_dct, is_tuple_non, is_tuple_bl, is_tuple_int, is_tuple_str, is_tuple_tup, is_tuple_lst, is_tuple_dct, is_list_non, is_list_bl, is_list_int, is_list_str, is_list_tup, is_list_lst, is_list_dct, is_dict_non, is_dict_bl, is_dict_int, is_dict_str, is_dict_tup, is_dict_lst, is_dict_dct,
      bfD, len_s, len_l, len_t, c_eq_ii, c_ne_ii, c_lt_ii, c_le_ii, c_gt_ii, c_ge_ii, c_is_non, c_isn_non, noneD, Int.cast_ofNat_Int, Int.reduceEq, Int.reduceLT, Int.reduceLE, decide_true, decide_false, kTup, kLst, pures, sizeLine_eq, Nat.reduceLeDiff, g_tupq, idx_q0, idx_q1, is_tuple_q, len_q, k_ivq]
  cases h4 : (s == ⟨#[99, 104, 101, 115, 116]⟩) <;> simp only [List.map_cons, List.map_nil, List.length_cons, List.length_nil, List.replicate, List.cons_append, List.nil_append, List.append_nil, Nat.reduceAdd, Nat.reduceSub, Nat.zero_add,
      e_var, e_con, e_bin, k_bin1, k_bin2, e_neg, k_neg, e_not, k_not, e_and, k_and, e_or, k_or, e_cmp, k_cmp1, k_cmp2, e_chain, k_ch1, k_ch2, e_ite, k_ite, e_call, k_call1, k_call2, e_blt, k_blt, e_meth, k_meth1, k_meth2, e_tup, e_lst, e_dct0, e_dcd, e_idx, k_idx1, k_idx2, e_slc, k_slc1, k_slc2, k_slc3, o_none, o_some, k_o, e_new, k_new, e_lc, k_lc, lc_g, es_nil, es_cons, k_es1, k_es2, t_nil, t_cons, k_t, i_val, i_range, i_enum, k_ent, k_enl, enumD, s_par, k_par, setAll, k_body, k_turn, k_ivl, k_ivt, k_ivs,
      g_name, g_tup, g_sub, k_sub1, gs_nil, gs_cons, k_gs, s_asg, k_asg1, k_nx, s_expr, k_expr, s_ret, k_ret, s_iff, k_if, s_for, k_for, s_aug, s_pass, ss_nil, ss_cons, k_ss, bind_ok, bind_exc, bind_stuck, go_ok, go_exc, seq_nx, seq_rt, seq_exc, turn_nx, turn_rt, turn_exc, calm_ok', end_d, end_nx, end_exc, tru_bl, give, give_b, ders, der, arrD, List.getElem?_cons_zero, List.getElem?_cons_succ, List.set_cons_zero, List.set_cons_succ, if_true, if_false, Bool.false_eq_true, Bool.not_true, Bool.not_false, List.take_length,
      e_isi, k_isi, e_tin, k_tinP, k_tinN, e_tget, k_tget, g_star, i_zip, is_int_non, is_int_bl, is_int_int, is_int_str, is_int_tup, is_int_lst, is_int_dct, is_str_non, is_str_bl, is_str_int, is_str_str, is_str_tup, is_str_lst, is_str_dct, is_bool_non, is_bool_bl, is_bool_int, is_bool_str, is_bool_tup, is_bool_lst, is_bool_dct, is_tuple_non, is_tuple_bl, is_tuple_int, is_tuple_str, is_tuple_tup, is_tuple_lst, is_tuple_dct, is_list_non, is_list_bl, is_list_int, is_list_str, is_list_tup, is_list_lst, is_list_dct, is_dict_non, is_dict_bl, is_dict_int, is_dict_str, is_dict_tup, is_dict_lst, is_dict_dct,
      bfD, len_s, len_l, len_t, c_eq_ii, c_ne_ii, c_lt_ii, c_le_ii, c_gt_ii, c_ge_ii, c_is_non, c_isn_non, noneD, Int.cast_ofNat_Int, Int.reduceEq, Int.reduceLT, Int.reduceLE, decide_true, decide_false, kTup, kLst, pures, sizeLine_eq, Nat.reduceLeDiff, g_tupq, idx_q0, idx_q1, is_tuple_q, len_q, k_ivq, h4, Bool.true_and, Bool.false_and]
  have h5 : (s.cps.toList.map fun c => D.str ⟨#[c]⟩).length ≤ 16777216 := by
    rw [List.length_map]
    have : s.cps.toList.length = s.length := rfl
    simp only [decide_eq_true_eq] at h2
    omega
  simp only [h5, List.map_cons, List.map_nil, List.length_cons, List.length_nil, List.replicate, List.cons_append, List.nil_append, List.append_nil, Nat.reduceAdd, Nat.reduceSub, Nat.zero_add,
      e_var, e_con, e_bin, k_bin1, k_bin2, e_neg, k_neg, e_not, k_not, e_and, k_and, e_or, k_or, e_cmp, k_cmp1, k_cmp2, e_chain, k_ch1, k_ch2, e_ite, k_ite, e_call, k_call1, k_call2, e_blt, k_blt, e_meth, k_meth1, k_meth2, e_tup, e_lst, e_dct0, e_dcd, e_idx, k_idx1, k_idx2, e_slc, k_slc1, k_slc2, k_slc3, o_none, o_some, k_o, e_new, k_new, e_lc, k_lc, lc_g, es_nil, es_cons, k_es1, k_es2, t_nil, t_cons, k_t, i_val, i_range, i_enum, k_ent, k_enl, enumD, s_par, k_par, setAll, k_body, k_turn, k_ivl, k_ivt, k_ivs,
      g_name, g_tup, g_sub, k_sub1, gs_nil, gs_cons, k_gs, s_asg, k_asg1, k_nx, s_expr, k_expr, s_ret, k_ret, s_iff, k_if, s_for, k_for, s_aug, s_pass, ss_nil, ss_cons, k_ss, bind_ok, bind_exc, bind_stuck, go_ok, go_exc, seq_nx, seq_rt, seq_exc, turn_nx, turn_rt, turn_exc, calm_ok', end_d, end_nx, end_exc, tru_bl, give, give_b, ders, der, arrD, List.getElem?_cons_zero, List.getElem?_cons_succ, List.set_cons_zero, List.set_cons_succ, if_true, if_false, Bool.false_eq_true, Bool.not_true, Bool.not_false, List.take_length,
      e_isi, k_isi, e_tin, k_tinP, k_tinN, e_tget, k_tget, g_star, i_zip, is_int_non, is_int_bl, is_int_int, is_int_str, is_int_tup, is_int_lst, is_int_dct, is_str_non, is_str_bl, is_str_int, is_str_str, is_str_tup, is_str_lst, is_str_dct, is_bool_non, is_bool_bl, is_bool_int, is_bool_str, is_bool_tup, is_bool_lst, is_bool_dct, is_tuple_non, is_tuple_bl, is_tuple_int, is_tuple_str, is_tuple_tup, is_tuple_lst, is_tuple_dct, is_list_non, is_list_bl, is_list_int, is_list_str, is_list_tup, is_list_lst, is_list_dct, is_dict_non, is_dict_bl, is_dict_int, is_dict_str, is_dict_tup, is_dict_lst, is_dict_dct,
      bfD, len_s, len_l, len_t, c_eq_ii, c_ne_ii, c_lt_ii, c_le_ii, c_gt_ii, c_ge_ii, c_is_non, c_isn_non, noneD, Int.cast_ofNat_Int, Int.reduceEq, Int.reduceLT, Int.reduceLE, decide_true, decide_false, kTup, kLst, pures, sizeLine_eq, Nat.reduceLeDiff, g_tupq, idx_q0, idx_q1, is_tuple_q, len_q, k_ivq]
  rw [lett_lc T L]
  · simp only [List.map_cons, List.map_nil, List.length_cons, List.length_nil, List.replicate, List.cons_append, List.nil_append, List.append_nil, Nat.reduceAdd, Nat.reduceSub, Nat.zero_add,
      e_var, e_con, e_bin, k_bin1, k_bin2, e_neg, k_neg, e_not, k_not, e_and, k_and, e_or, k_or, e_cmp, k_cmp1, k_cmp2, e_chain, k_ch1, k_ch2, e_ite, k_ite, e_call, k_call1, k_call2, e_blt, k_blt, e_meth, k_meth1, k_meth2, e_tup, e_lst, e_dct0, e_dcd, e_idx, k_idx1, k_idx2, e_slc, k_slc1, k_slc2, k_slc3, o_none, o_some, k_o, e_new, k_new, e_lc, k_lc, lc_g, es_nil, es_cons, k_es1, k_es2, t_nil, t_cons, k_t, i_val, i_range, i_enum, k_ent, k_enl, enumD, s_par, k_par, setAll, k_body, k_turn, k_ivl, k_ivt, k_ivs,
      g_name, g_tup, g_sub, k_sub1, gs_nil, gs_cons, k_gs, s_asg, k_asg1, k_nx, s_expr, k_expr, s_ret, k_ret, s_iff, k_if, s_for, k_for, s_aug, s_pass, ss_nil, ss_cons, k_ss, bind_ok, bind_exc, bind_stuck, go_ok, go_exc, seq_nx, seq_rt, seq_exc, turn_nx, turn_rt, turn_exc, calm_ok', end_d, end_nx, end_exc, tru_bl, give, give_b, ders, der, arrD, List.getElem?_cons_zero, List.getElem?_cons_succ, List.set_cons_zero, List.set_cons_succ, if_true, if_false, Bool.false_eq_true, Bool.not_true, Bool.not_false, List.take_length,
      e_isi, k_isi, e_tin, k_tinP, k_tinN, e_tget, k_tget, g_star, i_zip, is_int_non, is_int_bl, is_int_int, is_int_str, is_int_tup, is_int_lst, is_int_dct, is_str_non, is_str_bl, is_str_int, is_str_str, is_str_tup, is_str_lst, is_str_dct, is_bool_non, is_bool_bl, is_bool_int, is_bool_str, is_bool_tup, is_bool_lst, is_bool_dct, is_tuple_non, is_tuple_bl, is_tuple_int, is_tuple_str, is_tuple_tup, is_tuple_lst, is_tuple_dct, is_list_non, is_list_bl, is_list_int, is_list_str, is_list_tup, is_list_lst, is_list_dct, is_dict_non, is_dict_bl, is_dict_int, is_dict_str, is_dict_tup, is_dict_lst, is_dict_dct,
      bfD, len_s, len_l, len_t, c_eq_ii, c_ne_ii, c_lt_ii, c_le_ii, c_gt_ii, c_ge_ii, c_is_non, c_isn_non, noneD, Int.cast_ofNat_Int, Int.reduceEq, Int.reduceLT, Int.reduceLE, decide_true, decide_false, kTup, kLst, pures, sizeLine_eq, Nat.reduceLeDiff, g_tupq, idx_q0, idx_q1, is_tuple_q, len_q, k_ivq, all_map, lettersOk]
  · intro c
    simp only [I21e1, wipeE, List.map_cons, List.map_nil, List.length_cons, List.length_nil, List.replicate, List.cons_append, List.nil_append, List.append_nil, Nat.reduceAdd, Nat.reduceSub, Nat.zero_add,
      e_var, e_con, e_bin, k_bin1, k_bin2, e_neg, k_neg, e_not, k_not, e_and, k_and, e_or, k_or, e_cmp, k_cmp1, k_cmp2, e_chain, k_ch1, k_ch2, e_ite, k_ite, e_call, k_call1, k_call2, e_blt, k_blt, e_meth, k_meth1, k_meth2, e_tup, e_lst, e_dct0, e_dcd, e_idx, k_idx1, k_idx2, e_slc, k_slc1, k_slc2, k_slc3, o_none, o_some, k_o, e_new, k_new, e_lc, k_lc, lc_g, es_nil, es_cons, k_es1, k_es2, t_nil, t_cons, k_t, i_val, i_range, i_enum, k_ent, k_enl, enumD, s_par, k_par, setAll, k_body, k_turn, k_ivl, k_ivt, k_ivs,
      g_name, g_tup, g_sub, k_sub1, gs_nil, gs_cons, k_gs, s_asg, k_asg1, k_nx, s_expr, k_expr, s_ret, k_ret, s_iff, k_if, s_for, k_for, s_aug, s_pass, ss_nil, ss_cons, k_ss, bind_ok, bind_exc, bind_stuck, go_ok, go_exc, seq_nx, seq_rt, seq_exc, turn_nx, turn_rt, turn_exc, calm_ok', end_d, end_nx, end_exc, tru_bl, give, give_b, ders, der, arrD, List.getElem?_cons_zero, List.getElem?_cons_succ, List.set_cons_zero, List.set_cons_succ, if_true, if_false, Bool.false_eq_true, Bool.not_true, Bool.not_false, List.take_length,
      e_isi, k_isi, e_tin, k_tinP, k_tinN, e_tget, k_tget, g_star, i_zip, is_int_non, is_int_bl, is_int_int, is_int_str, is_int_tup, is_int_lst, is_int_dct, is_str_non, is_str_bl, is_str_int, is_str_str, is_str_tup, is_str_lst, is_str_dct, is_bool_non, is_bool_bl, is_bool_int, is_bool_str, is_bool_tup, is_bool_lst, is_bool_dct, is_tuple_non, is_tuple_bl, is_tuple_int, is_tuple_str, is_tuple_tup, is_tuple_lst, is_tuple_dct, is_list_non, is_list_bl, is_list_int, is_list_str, is_list_tup, is_list_lst, is_list_dct, is_dict_non, is_dict_bl, is_dict_int, is_dict_str, is_dict_tup, is_dict_lst, is_dict_dct,
      bfD, len_s, len_l, len_t, c_eq_ii, c_ne_ii, c_lt_ii, c_le_ii, c_gt_ii, c_ge_ii, c_is_non, c_isn_non, noneD, Int.cast_ofNat_Int, Int.reduceEq, Int.reduceLT, Int.reduceLE, decide_true, decide_false, kTup, kLst, pures, sizeLine_eq, Nat.reduceLeDiff, g_tupq, idx_q0, idx_q1, is_tuple_q, len_q, k_ivq, c_in_ss]
    rfl
theorem law_name_ok (x : D) : Fn t (k + 1) 22 [.d x] st = .ok (.d (.bl (nameD x))) st := by
  rw [fn_at L rfl]
  simp only [runF, startE, I22, List.map_cons, List.map_nil, List.length_cons, List.length_nil, List.replicate, List.cons_append, List.nil_append, List.append_nil, Nat.reduceAdd, Nat.reduceSub, Nat.zero_add,
      e_var, e_con, e_bin, k_bin1, k_bin2, e_neg, k_neg, e_not, k_not, e_and, k_and, e_or, k_or, e_cmp, k_cmp1, k_cmp2, e_chain, k_ch1, k_ch2, e_ite, k_ite, e_call, k_call1, k_call2, e_blt, k_blt, e_meth, k_meth1, k_meth2, e_tup, e_lst, e_dct0, e_dcd, e_idx, k_idx1, k_idx2, e_slc, k_slc1, k_slc2, k_slc3, o_none, o_some, k_o, e_new, k_new, e_lc, k_lc, lc_g, es_nil, es_cons, k_es1, k_es2, t_nil, t_cons, k_t, i_val, i_range, i_enum, k_ent, k_enl, enumD, s_par, k_par, setAll, k_body, k_turn, k_ivl, k_ivt, k_ivs,
      g_name, g_tup, g_sub, k_sub1, gs_nil, gs_cons, k_gs, s_asg, k_asg1, k_nx, s_expr, k_expr, s_ret, k_ret, s_iff, k_if, s_for, k_for, s_aug, s_pass, ss_nil, ss_cons, k_ss, bind_ok, bind_exc, bind_stuck, go_ok, go_exc, seq_nx, seq_rt, seq_exc, turn_nx, turn_rt, turn_exc, calm_ok', end_d, end_nx, end_exc, tru_bl, give, give_b, ders, der, arrD, List.getElem?_cons_zero, List.getElem?_cons_succ, List.set_cons_zero, List.set_cons_succ, if_true, if_false, Bool.false_eq_true, Bool.not_true, Bool.not_false, List.take_length,
      e_isi, k_isi, e_tin, k_tinP, k_tinN, e_tget, k_tget, g_star, i_zip, is_int_non, is_int_bl, is_int_int, is_int_str, is_int_tup, is_int_lst, is_int_dct, is_str_non, is_str_bl, is_str_int, is_str_str, is_str_tup, is_str_lst, is_str_dct, is_bool_non, is_bool_bl, is_bool_int, is_bool_str, is_bool_tup, is_bool_lst, is_bool_dct, is_tuple_non, is_tuple_bl, is_tuple_int, is_tuple_str, is_tuple_tup, is_tuple_lst, is_tuple_dct, is_list_non, is_list_bl, is_list_int, is_list_str, is_list_tup, is_list_lst, is_list_dct, is_dict_non, is_dict_bl, is_dict_int, is_dict_str, is_dict_tup, is_dict_lst, is_dict_dct,
      bfD, len_s, len_l, len_t, c_eq_ii, c_ne_ii, c_lt_ii, c_le_ii, c_gt_ii, c_ge_ii, c_is_non, c_isn_non, noneD, Int.cast_ofNat_Int, Int.reduceEq, Int.reduceLT, Int.reduceLE, decide_true, decide_false, kTup, kLst, pures, sizeLine_eq, Nat.reduceLeDiff, g_tupq, idx_q0, idx_q1, is_tuple_q, len_q, k_ivq]
  cases x <;> simp only [List.map_cons, List.map_nil, List.length_cons, List.length_nil, List.replicate, List.cons_append, List.nil_append, List.append_nil, Nat.reduceAdd, Nat.reduceSub, Nat.zero_add,
      e_var, e_con, e_bin, k_bin1, k_bin2, e_neg, k_neg, e_not, k_not, e_and, k_and, e_or, k_or, e_cmp, k_cmp1, k_cmp2, e_chain, k_ch1, k_ch2, e_ite, k_ite, e_call, k_call1, k_call2, e_blt, k_blt, e_meth, k_meth1, k_meth2, e_tup, e_lst, e_dct0, e_dcd, e_idx, k_idx1, k_idx2, e_slc, k_slc1, k_slc2, k_slc3, o_none, o_some, k_o, e_new, k_new, e_lc, k_lc, lc_g, es_nil, es_cons, k_es1, k_es2, t_nil, t_cons, k_t, i_val, i_range, i_enum, k_ent, k_enl, enumD, s_par, k_par, setAll, k_body, k_turn, k_ivl, k_ivt, k_ivs,
      g_name, g_tup, g_sub, k_sub1, gs_nil, gs_cons, k_gs, s_asg, k_asg1, k_nx, s_expr, k_expr, s_ret, k_ret, s_iff, k_if, s_for, k_for, s_aug, s_pass, ss_nil, ss_cons, k_ss, bind_ok, bind_exc, bind_stuck, go_ok, go_exc, seq_nx, seq_rt, seq_exc, turn_nx, turn_rt, turn_exc, calm_ok', end_d, end_nx, end_exc, tru_bl, give, give_b, ders, der, arrD, List.getElem?_cons_zero, List.getElem?_cons_succ, List.set_cons_zero, List.set_cons_succ, if_true, if_false, Bool.false_eq_true, Bool.not_true, Bool.not_false, List.take_length,
      e_isi, k_isi, e_tin, k_tinP, k_tinN, e_tget, k_tget, g_star, i_zip, is_int_non, is_int_bl, is_int_int, is_int_str, is_int_tup, is_int_lst, is_int_dct, is_str_non, is_str_bl, is_str_int, is_str_str, is_str_tup, is_str_lst, is_str_dct, is_bool_non, is_bool_bl, is_bool_int, is_bool_str, is_bool_tup, is_bool_lst, is_bool_dct, is_tuple_non, is_tuple_bl, is_tuple_int, is_tuple_str, is_tuple_tup, is_tuple_lst, is_tuple_dct, is_list_non, is_list_bl, is_list_int, is_list_str, is_list_tup, is_list_lst, is_list_dct, is_dict_non, is_dict_bl, is_dict_int, is_dict_str, is_dict_tup, is_dict_lst, is_dict_dct,
      bfD, len_s, len_l, len_t, c_eq_ii, c_ne_ii, c_lt_ii, c_le_ii, c_gt_ii, c_ge_ii, c_is_non, c_isn_non, noneD, Int.cast_ofNat_Int, Int.reduceEq, Int.reduceLT, Int.reduceLE, decide_true, decide_false, kTup, kLst, pures, sizeLine_eq, Nat.reduceLeDiff, g_tupq, idx_q0, idx_q1, is_tuple_q, len_q, k_ivq, nameD]
  rename_i s
  unfold nameS
  have g1 : decide ((1 : Int) ≤ s.length) = decide ((0 : Int) < s.length) := decide_eq_decide.mpr (by omega)
  have g2 : decide ((s.length : Int) ≤ 8) = decide ((s.length : Int) < 9) := decide_eq_decide.mpr (by omega)
  rw [g1, g2]
  cases h1 : decide ((0 : Int) < s.length) <;> simp only [List.map_cons, List.map_nil, List.length_cons, List.length_nil, List.replicate, List.cons_append, List.nil_append, List.append_nil, Nat.reduceAdd, Nat.reduceSub, Nat.zero_add,
      e_var, e_con, e_bin, k_bin1, k_bin2, e_neg, k_neg, e_not, k_not, e_and, k_and, e_or, k_or, e_cmp, k_cmp1, k_cmp2, e_chain, k_ch1, k_ch2, e_ite, k_ite, e_call, k_call1, k_call2, e_blt, k_blt, e_meth, k_meth1, k_meth2, e_tup, e_lst, e_dct0, e_dcd, e_idx, k_idx1, k_idx2, e_slc, k_slc1, k_slc2, k_slc3, o_none, o_some, k_o, e_new, k_new, e_lc, k_lc, lc_g, es_nil, es_cons, k_es1, k_es2, t_nil, t_cons, k_t, i_val, i_range, i_enum, k_ent, k_enl, enumD, s_par, k_par, setAll, k_body, k_turn, k_ivl, k_ivt, k_ivs,
      g_name, g_tup, g_sub, k_sub1, gs_nil, gs_cons, k_gs, s_asg, k_asg1, k_nx, s_expr, k_expr, s_ret, k_ret, s_iff, k_if, s_for, k_for, s_aug, s_pass, ss_nil, ss_cons, k_ss, bind_ok, bind_exc, bind_stuck, go_ok, go_exc, seq_nx, seq_rt, seq_exc, turn_nx, turn_rt, turn_exc, calm_ok', end_d, end_nx, end_exc, tru_bl, give, give_b, ders, der, arrD, List.getElem?_cons_zero, List.getElem?_cons_succ, List.set_cons_zero, List.set_cons_succ, if_true, if_false, Bool.false_eq_true, Bool.not_true, Bool.not_false, List.take_length,
      e_isi, k_isi, e_tin, k_tinP, k_tinN, e_tget, k_tget, g_star, i_zip, is_int_non, is_int_bl, is_int_int, is_int_str, is_int_tup, is_int_lst, is_int_dct, is_str_non, is_str_bl, is_str_int, is_str_str, is_str_tup, is_str_lst, is_str_dct, is_bool_non, is_bool_bl, is_bool_int, is_bool_str, is_bool_tup, is_bool_lst, is_bool_dct, is_tuple_non, is_tuple_bl, is_tuple_int, is_tuple_str, is_tuple_tup, is_tuple_lst, is_tuple_dct, is_list_non, is_list_bl, is_list_int, is_list_str, is_list_tup, is_list_lst, is_list_dct, is_dict_non, is_dict_bl, is_dict_int, is_dict_str, is_dict_tup, is_dict_lst, is_dict_dct,
      bfD, len_s, len_l, len_t, c_eq_ii, c_ne_ii, c_lt_ii, c_le_ii, c_gt_ii, c_ge_ii, c_is_non, c_isn_non, noneD, Int.cast_ofNat_Int, Int.reduceEq, Int.reduceLT, Int.reduceLE, decide_true, decide_false, kTup, kLst, pures, sizeLine_eq, Nat.reduceLeDiff, g_tupq, idx_q0, idx_q1, is_tuple_q, len_q, k_ivq, h1, Bool.true_and, Bool.false_and]
  cases h2 : decide ((s.length : Int) < 9) <;> simp only [List.map_cons, List.map_nil, List.length_cons, List.length_nil, List.replicate, List.cons_append, List.nil_append, List.append_nil, Nat.reduceAdd, Nat.reduceSub, Nat.zero_add,
      e_var, e_con, e_bin, k_bin1, k_bin2, e_neg, k_neg, e_not, k_not, e_and, k_and, e_or, k_or, e_cmp, k_cmp1, k_cmp2, e_chain, k_ch1, k_ch2, e_ite, k_ite, e_call, k_call1, k_call2, e_blt, k_blt, e_meth, k_meth1, k_meth2, e_tup, e_lst, e_dct0, e_dcd, e_idx, k_idx1, k_idx2, e_slc, k_slc1, k_slc2, k_slc3, o_none, o_some, k_o, e_new, k_new, e_lc, k_lc, lc_g, es_nil, es_cons, k_es1, k_es2, t_nil, t_cons, k_t, i_val, i_range, i_enum, k_ent, k_enl, enumD, s_par, k_par, setAll, k_body, k_turn, k_ivl, k_ivt, k_ivs,
      g_name, g_tup, g_sub, k_sub1, gs_nil, gs_cons, k_gs, s_asg, k_asg1, k_nx, s_expr, k_expr, s_ret, k_ret, s_iff, k_if, s_for, k_for, s_aug, s_pass, ss_nil, ss_cons, k_ss, bind_ok, bind_exc, bind_stuck, go_ok, go_exc, seq_nx, seq_rt, seq_exc, turn_nx, turn_rt, turn_exc, calm_ok', end_d, end_nx, end_exc, tru_bl, give, give_b, ders, der, arrD, List.getElem?_cons_zero, List.getElem?_cons_succ, List.set_cons_zero, List.set_cons_succ, if_true, if_false, Bool.false_eq_true, Bool.not_true, Bool.not_false, List.take_length,
      e_isi, k_isi, e_tin, k_tinP, k_tinN, e_tget, k_tget, g_star, i_zip, is_int_non, is_int_bl, is_int_int, is_int_str, is_int_tup, is_int_lst, is_int_dct, is_str_non, is_str_bl, is_str_int, is_str_str, is_str_tup, is_str_lst, is_str_dct, is_bool_non, is_bool_bl, is_bool_int, is_bool_str, is_bool_tup, is_bool_lst, is_bool_dct, is_tuple_non, is_tuple_bl, is_tuple_int, is_tuple_str, is_tuple_tup, is_tuple_lst, is_tuple_dct, is_list_non, is_list_bl, is_list_int, is_list_str, is_list_tup, is_list_lst, is_list_dct, is_dict_non, is_dict_bl, is_dict_int, is_dict_str, is_dict_tup, is_dict_lst, is_dict_dct,
      bfD, len_s, len_l, len_t, c_eq_ii, c_ne_ii, c_lt_ii, c_le_ii, c_gt_ii, c_ge_ii, c_is_non, c_isn_non, noneD, Int.cast_ofNat_Int, Int.reduceEq, Int.reduceLT, Int.reduceLE, decide_true, decide_false, kTup, kLst, pures, sizeLine_eq, Nat.reduceLeDiff, g_tupq, idx_q0, idx_q1, is_tuple_q, len_q, k_ivq, h2, Bool.true_and, Bool.false_and]
  have h3 : (s == chestS) = (s == ⟨#[99, 104, 101, 115, 116]⟩) := rfl
  rw [h3]
  simp only [c_eq_ss, List.map_cons, List.map_nil, List.length_cons, List.length_nil, List.replicate, List.cons_append, List.nil_append, List.append_nil, Nat.reduceAdd, Nat.reduceSub, Nat.zero_add,
      e_var, e_con, e_bin, k_bin1, k_bin2, e_neg, k_neg, e_not, k_not, e_and, k_and, e_or, k_or, e_cmp, k_cmp1, k_cmp2, e_chain, k_ch1, k_ch2, e_ite, k_ite, e_call, k_call1, k_call2, e_blt, k_blt, e_meth, k_meth1, k_meth2, e_tup, e_lst, e_dct0, e_dcd, e_idx, k_idx1, k_idx2, e_slc, k_slc1, k_slc2, k_slc3, o_none, o_some, k_o, e_new, k_new, e_lc, k_lc, lc_g, es_nil, es_cons, k_es1, k_es2, t_nil, t_cons, k_t, i_val, i_range, i_enum, k_ent, k_enl, enumD, s_par, k_par, setAll, k_body, k_turn, k_ivl, k_ivt, k_ivs,
      g_name, g_tup, g_sub, k_sub1, gs_nil, gs_cons, k_gs, s_asg, k_asg1, k_nx, s_expr, k_expr, s_ret, k_ret, s_iff, k_if, s_for, k_for, s_aug, s_pass, ss_nil, ss_cons, k_ss, bind_ok, bind_exc, bind_stuck, go_ok, go_exc, seq_nx, seq_rt, seq_exc, turn_nx, turn_rt, turn_exc, calm_ok', end_d, end_nx, end_exc, tru_bl, give, give_b, ders, der, arrD, List.getElem?_cons_zero, List.getElem?_cons_succ, List.set_cons_zero, List.set_cons_succ, if_true, if_false, Bool.false_eq_true, Bool.not_true, Bool.not_false, List.take_length,
      e_isi, k_isi, e_tin, k_tinP, k_tinN, e_tget, k_tget, g_star, i_zip, is_int_non, is_int_bl, is_int_int, is_int_str, is_int_tup, is_int_lst, is_int_dct, is_str_non, is_str_bl, is_str_int, is_str_str, is_str_tup, is_str_lst, is_str_dct, is_bool_non, is_bool_bl, is_bool_int, is_bool_str, is_bool_tup, is_bool_lst, is_bool_dct, is_tuple_non, is_tuple_bl, is_tuple_int, is_tuple_str, is_tuple_tup, is_tuple_lst, is_tuple_dct, is_list_non, is_list_bl, is_list_int, is_list_str, is_list_tup, is_list_lst, is_list_dct, is_dict_non, is_dict_bl, is_dict_int, is_dict_str, is_dict_tup, is_dict_lst, is_dict_dct,
      bfD, len_s, len_l, len_t, c_eq_ii, c_ne_ii, c_lt_ii, c_le_ii, c_gt_ii, c_ge_ii, c_is_non, c_isn_non, noneD, Int.cast_ofNat_Int, Int.reduceEq, Int.reduceLT, Int.reduceLE, decide_true, decide_false, kTup, kLst, pures, sizeLine_eq, Nat.reduceLeDiff, g_tupq, idx_q0, idx_q1, is_tuple_q, len_q, k_ivq]
  cases h4 : (s == ⟨#[99, 104, 101, 115, 116]⟩) <;> simp only [List.map_cons, List.map_nil, List.length_cons, List.length_nil, List.replicate, List.cons_append, List.nil_append, List.append_nil, Nat.reduceAdd, Nat.reduceSub, Nat.zero_add,
      e_var, e_con, e_bin, k_bin1, k_bin2, e_neg, k_neg, e_not, k_not, e_and, k_and, e_or, k_or, e_cmp, k_cmp1, k_cmp2, e_chain, k_ch1, k_ch2, e_ite, k_ite, e_call, k_call1, k_call2, e_blt, k_blt, e_meth, k_meth1, k_meth2, e_tup, e_lst, e_dct0, e_dcd, e_idx, k_idx1, k_idx2, e_slc, k_slc1, k_slc2, k_slc3, o_none, o_some, k_o, e_new, k_new, e_lc, k_lc, lc_g, es_nil, es_cons, k_es1, k_es2, t_nil, t_cons, k_t, i_val, i_range, i_enum, k_ent, k_enl, enumD, s_par, k_par, setAll, k_body, k_turn, k_ivl, k_ivt, k_ivs,
      g_name, g_tup, g_sub, k_sub1, gs_nil, gs_cons, k_gs, s_asg, k_asg1, k_nx, s_expr, k_expr, s_ret, k_ret, s_iff, k_if, s_for, k_for, s_aug, s_pass, ss_nil, ss_cons, k_ss, bind_ok, bind_exc, bind_stuck, go_ok, go_exc, seq_nx, seq_rt, seq_exc, turn_nx, turn_rt, turn_exc, calm_ok', end_d, end_nx, end_exc, tru_bl, give, give_b, ders, der, arrD, List.getElem?_cons_zero, List.getElem?_cons_succ, List.set_cons_zero, List.set_cons_succ, if_true, if_false, Bool.false_eq_true, Bool.not_true, Bool.not_false, List.take_length,
      e_isi, k_isi, e_tin, k_tinP, k_tinN, e_tget, k_tget, g_star, i_zip, is_int_non, is_int_bl, is_int_int, is_int_str, is_int_tup, is_int_lst, is_int_dct, is_str_non, is_str_bl, is_str_int, is_str_str, is_str_tup, is_str_lst, is_str_dct, is_bool_non, is_bool_bl, is_bool_int, is_bool_str, is_bool_tup, is_bool_lst, is_bool_dct, is_tuple_non, is_tuple_bl, is_tuple_int, is_tuple_str, is_tuple_tup, is_tuple_lst, is_tuple_dct, is_list_non, is_list_bl, is_list_int, is_list_str, is_list_tup, is_list_lst, is_list_dct, is_dict_non, is_dict_bl, is_dict_int, is_dict_str, is_dict_tup, is_dict_lst, is_dict_dct,
      bfD, len_s, len_l, len_t, c_eq_ii, c_ne_ii, c_lt_ii, c_le_ii, c_gt_ii, c_ge_ii, c_is_non, c_isn_non, noneD, Int.cast_ofNat_Int, Int.reduceEq, Int.reduceLT, Int.reduceLE, decide_true, decide_false, kTup, kLst, pures, sizeLine_eq, Nat.reduceLeDiff, g_tupq, idx_q0, idx_q1, is_tuple_q, len_q, k_ivq, h4, Bool.true_and, Bool.false_and]
  have h5 : (s.cps.toList.map fun c => D.str ⟨#[c]⟩).length ≤ 16777216 := by
    rw [List.length_map]
    have : s.cps.toList.length = s.length := rfl
    simp only [decide_eq_true_eq] at h2
    omega
  simp only [h5, List.map_cons, List.map_nil, List.length_cons, List.length_nil, List.replicate, List.cons_append, List.nil_append, List.append_nil, Nat.reduceAdd, Nat.reduceSub, Nat.zero_add,
      e_var, e_con, e_bin, k_bin1, k_bin2, e_neg, k_neg, e_not, k_not, e_and, k_and, e_or, k_or, e_cmp, k_cmp1, k_cmp2, e_chain, k_ch1, k_ch2, e_ite, k_ite, e_call, k_call1, k_call2, e_blt, k_blt, e_meth, k_meth1, k_meth2, e_tup, e_lst, e_dct0, e_dcd, e_idx, k_idx1, k_idx2, e_slc, k_slc1, k_slc2, k_slc3, o_none, o_some, k_o, e_new, k_new, e_lc, k_lc, lc_g, es_nil, es_cons, k_es1, k_es2, t_nil, t_cons, k_t, i_val, i_range, i_enum, k_ent, k_enl, enumD, s_par, k_par, setAll, k_body, k_turn, k_ivl, k_ivt, k_ivs,
      g_name, g_tup, g_sub, k_sub1, gs_nil, gs_cons, k_gs, s_asg, k_asg1, k_nx, s_expr, k_expr, s_ret, k_ret, s_iff, k_if, s_for, k_for, s_aug, s_pass, ss_nil, ss_cons, k_ss, bind_ok, bind_exc, bind_stuck, go_ok, go_exc, seq_nx, seq_rt, seq_exc, turn_nx, turn_rt, turn_exc, calm_ok', end_d, end_nx, end_exc, tru_bl, give, give_b, ders, der, arrD, List.getElem?_cons_zero, List.getElem?_cons_succ, List.set_cons_zero, List.set_cons_succ, if_true, if_false, Bool.false_eq_true, Bool.not_true, Bool.not_false, List.take_length,
      e_isi, k_isi, e_tin, k_tinP, k_tinN, e_tget, k_tget, g_star, i_zip, is_int_non, is_int_bl, is_int_int, is_int_str, is_int_tup, is_int_lst, is_int_dct, is_str_non, is_str_bl, is_str_int, is_str_str, is_str_tup, is_str_lst, is_str_dct, is_bool_non, is_bool_bl, is_bool_int, is_bool_str, is_bool_tup, is_bool_lst, is_bool_dct, is_tuple_non, is_tuple_bl, is_tuple_int, is_tuple_str, is_tuple_tup, is_tuple_lst, is_tuple_dct, is_list_non, is_list_bl, is_list_int, is_list_str, is_list_tup, is_list_lst, is_list_dct, is_dict_non, is_dict_bl, is_dict_int, is_dict_str, is_dict_tup, is_dict_lst, is_dict_dct,
      bfD, len_s, len_l, len_t, c_eq_ii, c_ne_ii, c_lt_ii, c_le_ii, c_gt_ii, c_ge_ii, c_is_non, c_isn_non, noneD, Int.cast_ofNat_Int, Int.reduceEq, Int.reduceLT, Int.reduceLE, decide_true, decide_false, kTup, kLst, pures, sizeLine_eq, Nat.reduceLeDiff, g_tupq, idx_q0, idx_q1, is_tuple_q, len_q, k_ivq]
  rw [lett_lc T L]
  · simp only [List.map_cons, List.map_nil, List.length_cons, List.length_nil, List.replicate, List.cons_append, List.nil_append, List.append_nil, Nat.reduceAdd, Nat.reduceSub, Nat.zero_add,
      e_var, e_con, e_bin, k_bin1, k_bin2, e_neg, k_neg, e_not, k_not, e_and, k_and, e_or, k_or, e_cmp, k_cmp1, k_cmp2, e_chain, k_ch1, k_ch2, e_ite, k_ite, e_call, k_call1, k_call2, e_blt, k_blt, e_meth, k_meth1, k_meth2, e_tup, e_lst, e_dct0, e_dcd, e_idx, k_idx1, k_idx2, e_slc, k_slc1, k_slc2, k_slc3, o_none, o_some, k_o, e_new, k_new, e_lc, k_lc, lc_g, es_nil, es_cons, k_es1, k_es2, t_nil, t_cons, k_t, i_val, i_range, i_enum, k_ent, k_enl, enumD, s_par, k_par, setAll, k_body, k_turn, k_ivl, k_ivt, k_ivs,
      g_name, g_tup, g_sub, k_sub1, gs_nil, gs_cons, k_gs, s_asg, k_asg1, k_nx, s_expr, k_expr, s_ret, k_ret, s_iff, k_if, s_for, k_for, s_aug, s_pass, ss_nil, ss_cons, k_ss, bind_ok, bind_exc, bind_stuck, go_ok, go_exc, seq_nx, seq_rt, seq_exc, turn_nx, turn_rt, turn_exc, calm_ok', end_d, end_nx, end_exc, tru_bl, give, give_b, ders, der, arrD, List.getElem?_cons_zero, List.getElem?_cons_succ, List.set_cons_zero, List.set_cons_succ, if_true, if_false, Bool.false_eq_true, Bool.not_true, Bool.not_false, List.take_length,
      e_isi, k_isi, e_tin, k_tinP, k_tinN, e_tget, k_tget, g_star, i_zip, is_int_non, is_int_bl, is_int_int, is_int_str, is_int_tup, is_int_lst, is_int_dct, is_str_non, is_str_bl, is_str_int, is_str_str, is_str_tup, is_str_lst, is_str_dct, is_bool_non, is_bool_bl, is_bool_int, is_bool_str, is_bool_tup, is_bool_lst, is_bool_dct, is_tuple_non, is_tuple_bl, is_tuple_int, is_tuple_str, is_tuple_tup, is_tuple_lst, is_tuple_dct, is_list_non, is_list_bl, is_list_int, is_list_str, is_list_tup, is_list_lst, is_list_dct, is_dict_non, is_dict_bl, is_dict_int, is_dict_str, is_dict_tup, is_dict_lst, is_dict_dct,
      bfD, len_s, len_l, len_t, c_eq_ii, c_ne_ii, c_lt_ii, c_le_ii, c_gt_ii, c_ge_ii, c_is_non, c_isn_non, noneD, Int.cast_ofNat_Int, Int.reduceEq, Int.reduceLT, Int.reduceLE, decide_true, decide_false, kTup, kLst, pures, sizeLine_eq, Nat.reduceLeDiff, g_tupq, idx_q0, idx_q1, is_tuple_q, len_q, k_ivq, all_map, lettersOk]
  · intro c
    simp only [I22e1, wipeE, List.map_cons, List.map_nil, List.length_cons, List.length_nil, List.replicate, List.cons_append, List.nil_append, List.append_nil, Nat.reduceAdd, Nat.reduceSub, Nat.zero_add,
      e_var, e_con, e_bin, k_bin1, k_bin2, e_neg, k_neg, e_not, k_not, e_and, k_and, e_or, k_or, e_cmp, k_cmp1, k_cmp2, e_chain, k_ch1, k_ch2, e_ite, k_ite, e_call, k_call1, k_call2, e_blt, k_blt, e_meth, k_meth1, k_meth2, e_tup, e_lst, e_dct0, e_dcd, e_idx, k_idx1, k_idx2, e_slc, k_slc1, k_slc2, k_slc3, o_none, o_some, k_o, e_new, k_new, e_lc, k_lc, lc_g, es_nil, es_cons, k_es1, k_es2, t_nil, t_cons, k_t, i_val, i_range, i_enum, k_ent, k_enl, enumD, s_par, k_par, setAll, k_body, k_turn, k_ivl, k_ivt, k_ivs,
      g_name, g_tup, g_sub, k_sub1, gs_nil, gs_cons, k_gs, s_asg, k_asg1, k_nx, s_expr, k_expr, s_ret, k_ret, s_iff, k_if, s_for, k_for, s_aug, s_pass, ss_nil, ss_cons, k_ss, bind_ok, bind_exc, bind_stuck, go_ok, go_exc, seq_nx, seq_rt, seq_exc, turn_nx, turn_rt, turn_exc, calm_ok', end_d, end_nx, end_exc, tru_bl, give, give_b, ders, der, arrD, List.getElem?_cons_zero, List.getElem?_cons_succ, List.set_cons_zero, List.set_cons_succ, if_true, if_false, Bool.false_eq_true, Bool.not_true, Bool.not_false, List.take_length,
      e_isi, k_isi, e_tin, k_tinP, k_tinN, e_tget, k_tget, g_star, i_zip, is_int_non, is_int_bl, is_int_int, is_int_str, is_int_tup, is_int_lst, is_int_dct, is_str_non, is_str_bl, is_str_int, is_str_str, is_str_tup, is_str_lst, is_str_dct, is_bool_non, is_bool_bl, is_bool_int, is_bool_str, is_bool_tup, is_bool_lst, is_bool_dct, is_tuple_non, is_tuple_bl, is_tuple_int, is_tuple_str, is_tuple_tup, is_tuple_lst, is_tuple_dct, is_list_non, is_list_bl, is_list_int, is_list_str, is_list_tup, is_list_lst, is_list_dct, is_dict_non, is_dict_bl, is_dict_int, is_dict_str, is_dict_tup, is_dict_lst, is_dict_dct,
      bfD, len_s, len_l, len_t, c_eq_ii, c_ne_ii, c_lt_ii, c_le_ii, c_gt_ii, c_ge_ii, c_is_non, c_isn_non, noneD, Int.cast_ofNat_Int, Int.reduceEq, Int.reduceLT, Int.reduceLE, decide_true, decide_false, kTup, kLst, pures, sizeLine_eq, Nat.reduceLeDiff, g_tupq, idx_q0, idx_q1, is_tuple_q, len_q, k_ivq, c_in_ss]
    rfl
end
end TW
namespace TW
open PySem PySem.Spec PyProof.Rows L2
def comeS : Str := ⟨#[99, 111, 109, 101]⟩
def bringS : Str := ⟨#[98, 114, 105, 110, 103]⟩
def giveS : Str := ⟨#[103, 105, 118, 101]⟩
def handS : Str := ⟨#[104, 97, 110, 100]⟩
def forgetS : Str := ⟨#[102, 111, 114, 103, 101, 116]⟩
def goS : Str := ⟨#[103, 111]⟩
theorem lk_come : List.lookup (⟨#[99, 111, 109, 101]⟩ : Str) [(⟨#[99, 111, 109, 101]⟩, (.tup [(.str ⟨#[110, 97, 109, 101]⟩)])), (⟨#[98, 114, 105, 110, 103]⟩, (.tup [(.str ⟨#[110, 97, 109, 101]⟩), (.str ⟨#[110, 97, 109, 101]⟩), (.str ⟨#[109, 101, 97, 115, 117, 114, 101, 115]⟩)])), (⟨#[103, 105, 118, 101]⟩, (.tup [(.str ⟨#[110, 97, 109, 101]⟩), (.str ⟨#[110, 97, 109, 101]⟩), (.str ⟨#[109, 101, 97, 115, 117, 114, 101, 115]⟩)])), (⟨#[104, 97, 110, 100]⟩, (.tup [(.str ⟨#[110, 97, 109, 101]⟩), (.str ⟨#[110, 97, 109, 101]⟩), (.str ⟨#[110, 97, 109, 101]⟩), (.str ⟨#[109, 101, 97, 115, 117, 114, 101, 115]⟩)])), (⟨#[102, 111, 114, 103, 101, 116]⟩, (.tup [(.str ⟨#[110, 97, 109, 101]⟩), (.str ⟨#[110, 97, 109, 101, 32, 111, 114, 32, 99, 104, 101, 115, 116]⟩), (.str ⟨#[109, 101, 97, 115, 117, 114, 101, 115]⟩)])), (⟨#[103, 111]⟩, (.tup [(.str ⟨#[110, 97, 109, 101]⟩)]))] = some (D.tup [.str ⟨#[110, 97, 109, 101]⟩]) := id rfl
theorem lk_bring : List.lookup (⟨#[98, 114, 105, 110, 103]⟩ : Str) [(⟨#[99, 111, 109, 101]⟩, (.tup [(.str ⟨#[110, 97, 109, 101]⟩)])), (⟨#[98, 114, 105, 110, 103]⟩, (.tup [(.str ⟨#[110, 97, 109, 101]⟩), (.str ⟨#[110, 97, 109, 101]⟩), (.str ⟨#[109, 101, 97, 115, 117, 114, 101, 115]⟩)])), (⟨#[103, 105, 118, 101]⟩, (.tup [(.str ⟨#[110, 97, 109, 101]⟩), (.str ⟨#[110, 97, 109, 101]⟩), (.str ⟨#[109, 101, 97, 115, 117, 114, 101, 115]⟩)])), (⟨#[104, 97, 110, 100]⟩, (.tup [(.str ⟨#[110, 97, 109, 101]⟩), (.str ⟨#[110, 97, 109, 101]⟩), (.str ⟨#[110, 97, 109, 101]⟩), (.str ⟨#[109, 101, 97, 115, 117, 114, 101, 115]⟩)])), (⟨#[102, 111, 114, 103, 101, 116]⟩, (.tup [(.str ⟨#[110, 97, 109, 101]⟩), (.str ⟨#[110, 97, 109, 101, 32, 111, 114, 32, 99, 104, 101, 115, 116]⟩), (.str ⟨#[109, 101, 97, 115, 117, 114, 101, 115]⟩)])), (⟨#[103, 111]⟩, (.tup [(.str ⟨#[110, 97, 109, 101]⟩)]))] = some (D.tup [.str ⟨#[110, 97, 109, 101]⟩, .str ⟨#[110, 97, 109, 101]⟩, .str ⟨#[109, 101, 97, 115, 117, 114, 101, 115]⟩]) := id rfl
theorem lk_give : List.lookup (⟨#[103, 105, 118, 101]⟩ : Str) [(⟨#[99, 111, 109, 101]⟩, (.tup [(.str ⟨#[110, 97, 109, 101]⟩)])), (⟨#[98, 114, 105, 110, 103]⟩, (.tup [(.str ⟨#[110, 97, 109, 101]⟩), (.str ⟨#[110, 97, 109, 101]⟩), (.str ⟨#[109, 101, 97, 115, 117, 114, 101, 115]⟩)])), (⟨#[103, 105, 118, 101]⟩, (.tup [(.str ⟨#[110, 97, 109, 101]⟩), (.str ⟨#[110, 97, 109, 101]⟩), (.str ⟨#[109, 101, 97, 115, 117, 114, 101, 115]⟩)])), (⟨#[104, 97, 110, 100]⟩, (.tup [(.str ⟨#[110, 97, 109, 101]⟩), (.str ⟨#[110, 97, 109, 101]⟩), (.str ⟨#[110, 97, 109, 101]⟩), (.str ⟨#[109, 101, 97, 115, 117, 114, 101, 115]⟩)])), (⟨#[102, 111, 114, 103, 101, 116]⟩, (.tup [(.str ⟨#[110, 97, 109, 101]⟩), (.str ⟨#[110, 97, 109, 101, 32, 111, 114, 32, 99, 104, 101, 115, 116]⟩), (.str ⟨#[109, 101, 97, 115, 117, 114, 101, 115]⟩)])), (⟨#[103, 111]⟩, (.tup [(.str ⟨#[110, 97, 109, 101]⟩)]))] = some (D.tup [.str ⟨#[110, 97, 109, 101]⟩, .str ⟨#[110, 97, 109, 101]⟩, .str ⟨#[109, 101, 97, 115, 117, 114, 101, 115]⟩]) := id rfl
theorem lk_hand : List.lookup (⟨#[104, 97, 110, 100]⟩ : Str) [(⟨#[99, 111, 109, 101]⟩, (.tup [(.str ⟨#[110, 97, 109, 101]⟩)])), (⟨#[98, 114, 105, 110, 103]⟩, (.tup [(.str ⟨#[110, 97, 109, 101]⟩), (.str ⟨#[110, 97, 109, 101]⟩), (.str ⟨#[109, 101, 97, 115, 117, 114, 101, 115]⟩)])), (⟨#[103, 105, 118, 101]⟩, (.tup [(.str ⟨#[110, 97, 109, 101]⟩), (.str ⟨#[110, 97, 109, 101]⟩), (.str ⟨#[109, 101, 97, 115, 117, 114, 101, 115]⟩)])), (⟨#[104, 97, 110, 100]⟩, (.tup [(.str ⟨#[110, 97, 109, 101]⟩), (.str ⟨#[110, 97, 109, 101]⟩), (.str ⟨#[110, 97, 109, 101]⟩), (.str ⟨#[109, 101, 97, 115, 117, 114, 101, 115]⟩)])), (⟨#[102, 111, 114, 103, 101, 116]⟩, (.tup [(.str ⟨#[110, 97, 109, 101]⟩), (.str ⟨#[110, 97, 109, 101, 32, 111, 114, 32, 99, 104, 101, 115, 116]⟩), (.str ⟨#[109, 101, 97, 115, 117, 114, 101, 115]⟩)])), (⟨#[103, 111]⟩, (.tup [(.str ⟨#[110, 97, 109, 101]⟩)]))] = some (D.tup [.str ⟨#[110, 97, 109, 101]⟩, .str ⟨#[110, 97, 109, 101]⟩, .str ⟨#[110, 97, 109, 101]⟩, .str ⟨#[109, 101, 97, 115, 117, 114, 101, 115]⟩]) := id rfl
theorem lk_forget : List.lookup (⟨#[102, 111, 114, 103, 101, 116]⟩ : Str) [(⟨#[99, 111, 109, 101]⟩, (.tup [(.str ⟨#[110, 97, 109, 101]⟩)])), (⟨#[98, 114, 105, 110, 103]⟩, (.tup [(.str ⟨#[110, 97, 109, 101]⟩), (.str ⟨#[110, 97, 109, 101]⟩), (.str ⟨#[109, 101, 97, 115, 117, 114, 101, 115]⟩)])), (⟨#[103, 105, 118, 101]⟩, (.tup [(.str ⟨#[110, 97, 109, 101]⟩), (.str ⟨#[110, 97, 109, 101]⟩), (.str ⟨#[109, 101, 97, 115, 117, 114, 101, 115]⟩)])), (⟨#[104, 97, 110, 100]⟩, (.tup [(.str ⟨#[110, 97, 109, 101]⟩), (.str ⟨#[110, 97, 109, 101]⟩), (.str ⟨#[110, 97, 109, 101]⟩), (.str ⟨#[109, 101, 97, 115, 117, 114, 101, 115]⟩)])), (⟨#[102, 111, 114, 103, 101, 116]⟩, (.tup [(.str ⟨#[110, 97, 109, 101]⟩), (.str ⟨#[110, 97, 109, 101, 32, 111, 114, 32, 99, 104, 101, 115, 116]⟩), (.str ⟨#[109, 101, 97, 115, 117, 114, 101, 115]⟩)])), (⟨#[103, 111]⟩, (.tup [(.str ⟨#[110, 97, 109, 101]⟩)]))] = some (D.tup [.str ⟨#[110, 97, 109, 101]⟩, .str ⟨#[110, 97, 109, 101, 32, 111, 114, 32, 99, 104, 101, 115, 116]⟩, .str ⟨#[109, 101, 97, 115, 117, 114, 101, 115]⟩]) := id rfl
theorem lk_go : List.lookup (⟨#[103, 111]⟩ : Str) [(⟨#[99, 111, 109, 101]⟩, (.tup [(.str ⟨#[110, 97, 109, 101]⟩)])), (⟨#[98, 114, 105, 110, 103]⟩, (.tup [(.str ⟨#[110, 97, 109, 101]⟩), (.str ⟨#[110, 97, 109, 101]⟩), (.str ⟨#[109, 101, 97, 115, 117, 114, 101, 115]⟩)])), (⟨#[103, 105, 118, 101]⟩, (.tup [(.str ⟨#[110, 97, 109, 101]⟩), (.str ⟨#[110, 97, 109, 101]⟩), (.str ⟨#[109, 101, 97, 115, 117, 114, 101, 115]⟩)])), (⟨#[104, 97, 110, 100]⟩, (.tup [(.str ⟨#[110, 97, 109, 101]⟩), (.str ⟨#[110, 97, 109, 101]⟩), (.str ⟨#[110, 97, 109, 101]⟩), (.str ⟨#[109, 101, 97, 115, 117, 114, 101, 115]⟩)])), (⟨#[102, 111, 114, 103, 101, 116]⟩, (.tup [(.str ⟨#[110, 97, 109, 101]⟩), (.str ⟨#[110, 97, 109, 101, 32, 111, 114, 32, 99, 104, 101, 115, 116]⟩), (.str ⟨#[109, 101, 97, 115, 117, 114, 101, 115]⟩)])), (⟨#[103, 111]⟩, (.tup [(.str ⟨#[110, 97, 109, 101]⟩)]))] = some (D.tup [.str ⟨#[110, 97, 109, 101]⟩]) := id rfl
theorem lk_no (w : Str) (h0 : (w == comeS) = false) (h1 : (w == bringS) = false) (h2 : (w == giveS) = false) (h3 : (w == handS) = false) (h4 : (w == forgetS) = false) (h5 : (w == goS) = false) : List.lookup w ([(⟨#[99, 111, 109, 101]⟩, (.tup [(.str ⟨#[110, 97, 109, 101]⟩)])), (⟨#[98, 114, 105, 110, 103]⟩, (.tup [(.str ⟨#[110, 97, 109, 101]⟩), (.str ⟨#[110, 97, 109, 101]⟩), (.str ⟨#[109, 101, 97, 115, 117, 114, 101, 115]⟩)])), (⟨#[103, 105, 118, 101]⟩, (.tup [(.str ⟨#[110, 97, 109, 101]⟩), (.str ⟨#[110, 97, 109, 101]⟩), (.str ⟨#[109, 101, 97, 115, 117, 114, 101, 115]⟩)])), (⟨#[104, 97, 110, 100]⟩, (.tup [(.str ⟨#[110, 97, 109, 101]⟩), (.str ⟨#[110, 97, 109, 101]⟩), (.str ⟨#[110, 97, 109, 101]⟩), (.str ⟨#[109, 101, 97, 115, 117, 114, 101, 115]⟩)])), (⟨#[102, 111, 114, 103, 101, 116]⟩, (.tup [(.str ⟨#[110, 97, 109, 101]⟩), (.str ⟨#[110, 97, 109, 101, 32, 111, 114, 32, 99, 104, 101, 115, 116]⟩), (.str ⟨#[109, 101, 97, 115, 117, 114, 101, 115]⟩)])), (⟨#[103, 111]⟩, (.tup [(.str ⟨#[110, 97, 109, 101]⟩)]))] : List (Str × D)) = none := by
  simp only [List.lookup, show (w == ⟨#[99, 111, 109, 101]⟩) = false from h0, show (w == ⟨#[98, 114, 105, 110, 103]⟩) = false from h1, show (w == ⟨#[103, 105, 118, 101]⟩) = false from h2, show (w == ⟨#[104, 97, 110, 100]⟩) = false from h3, show (w == ⟨#[102, 111, 114, 103, 101, 116]⟩) = false from h4, show (w == ⟨#[103, 111]⟩) = false from h5]
def chestD : D → Bool
  | .str s => s == chestS
  | _ => false
def fitD (x : D) (f : Str) : Bool := if (f == (⟨#[109, 101, 97, 115, 117, 114, 101, 115]⟩ : Str)) = true then wholeD x 1 9999 else (f == (⟨#[110, 97, 109, 101, 32, 111, 114, 32, 99, 104, 101, 115, 116]⟩ : Str)) && chestD x || nameD x
def nd (a b : D) : Bool := !eqD a b
def deedD : D → Bool
  | .tup [.str w, a] => (w == comeS || w == goS) && nameD a
  | .tup [.str w, a, b, c] => if (w == forgetS) = true then nameD a && ((chestD b || nameD b) && (wholeD c 1 9999 && nd a b)) else if (w == bringS) = true then nameD a && (nameD b && wholeD c 1 9999) else if (w == giveS) = true then nameD a && (nameD b && (wholeD c 1 9999 && nd a b)) else false
  | .tup [.str w, a, b, c, d] => w == handS && (nameD a && (nameD b && (nameD c && (wholeD d 1 9999 && nd a b))))
  | _ => false
theorem name_str {x : D} (h : nameD x = true) : ∃ s, x = .str s := by
  cases x <;> first | exact ⟨_, rfl⟩ | cases h
theorem chest_str {x : D} (h : chestD x = true) : ∃ s, x = .str s := by
  cases x <;> first | exact ⟨_, rfl⟩ | cases h
theorem star_t (x : D) (xs : List D) (en : En) (st : Sto) : starV [1] 2 false (.d (.tup (x :: xs))) en st = .ok ((en.set 1 (some (.d x))).set 2 (some (.d (.lst xs)))) st := id rfl
theorem zip_lt (xs ys : List D) (st : Sto) : kZip false [.d (.lst xs), .d (.tup ys)] st = .ok ⟨zipD xs ys, []⟩ st := id rfl
theorem zip_ts (xs : List D) (s : Str) (st : Sto) : kZip false [.d (.tup xs), .d (.str s)] st = .ok ⟨zipD xs (s.cps.toList.map fun c => .str ⟨#[c]⟩), []⟩ st := id rfl
theorem fit_n (a : D) : fitD a ⟨#[110, 97, 109, 101]⟩ = nameD a := by
  unfold fitD
  rw [show ((⟨#[110, 97, 109, 101]⟩ : Str) == ⟨#[109, 101, 97, 115, 117, 114, 101, 115]⟩) = false from rfl, show ((⟨#[110, 97, 109, 101]⟩ : Str) == ⟨#[110, 97, 109, 101, 32, 111, 114, 32, 99, 104, 101, 115, 116]⟩) = false from rfl]
  simp
theorem fit_m (a : D) : fitD a ⟨#[109, 101, 97, 115, 117, 114, 101, 115]⟩ = wholeD a 1 9999 := by
  unfold fitD
  rw [show ((⟨#[109, 101, 97, 115, 117, 114, 101, 115]⟩ : Str) == ⟨#[109, 101, 97, 115, 117, 114, 101, 115]⟩) = true from rfl]
  simp
theorem fit_c (a : D) : fitD a ⟨#[110, 97, 109, 101, 32, 111, 114, 32, 99, 104, 101, 115, 116]⟩ = (chestD a || nameD a) := by
  unfold fitD
  rw [show ((⟨#[110, 97, 109, 101, 32, 111, 114, 32, 99, 104, 101, 115, 116]⟩ : Str) == ⟨#[109, 101, 97, 115, 117, 114, 101, 115]⟩) = false from rfl, show ((⟨#[110, 97, 109, 101, 32, 111, 114, 32, 99, 104, 101, 115, 116]⟩ : Str) == ⟨#[110, 97, 109, 101, 32, 111, 114, 32, 99, 104, 101, 115, 116]⟩) = true from rfl]
  simp
theorem dd_come (a : D) : deedD (.tup [.str ⟨#[99, 111, 109, 101]⟩, a]) = (nameD a) := id rfl
theorem dd_bring (a b c : D) : deedD (.tup [.str ⟨#[98, 114, 105, 110, 103]⟩, a, b, c]) = (nameD a && (nameD b && wholeD c 1 9999)) := id rfl
theorem dd_give (a b c : D) : deedD (.tup [.str ⟨#[103, 105, 118, 101]⟩, a, b, c]) = (nameD a && (nameD b && (wholeD c 1 9999 && nd a b))) := id rfl
theorem dd_hand (a b c d : D) : deedD (.tup [.str ⟨#[104, 97, 110, 100]⟩, a, b, c, d]) = (nameD a && (nameD b && (nameD c && (wholeD d 1 9999 && nd a b)))) := id rfl
theorem dd_forget (a b c : D) : deedD (.tup [.str ⟨#[102, 111, 114, 103, 101, 116]⟩, a, b, c]) = (nameD a && ((chestD b || nameD b) && (wholeD c 1 9999 && nd a b))) := id rfl
theorem dd_go (a : D) : deedD (.tup [.str ⟨#[103, 111]⟩, a]) = (nameD a) := id rfl
theorem ni_come : cmpD .NotIn (.str ⟨#[99, 111, 109, 101]⟩) (.tup [.str ⟨#[103, 105, 118, 101]⟩, .str ⟨#[104, 97, 110, 100]⟩, .str ⟨#[102, 111, 114, 103, 101, 116]⟩]) = some true := id rfl
theorem ni_bring : cmpD .NotIn (.str ⟨#[98, 114, 105, 110, 103]⟩) (.tup [.str ⟨#[103, 105, 118, 101]⟩, .str ⟨#[104, 97, 110, 100]⟩, .str ⟨#[102, 111, 114, 103, 101, 116]⟩]) = some true := id rfl
theorem ni_give : cmpD .NotIn (.str ⟨#[103, 105, 118, 101]⟩) (.tup [.str ⟨#[103, 105, 118, 101]⟩, .str ⟨#[104, 97, 110, 100]⟩, .str ⟨#[102, 111, 114, 103, 101, 116]⟩]) = some false := id rfl
theorem ni_hand : cmpD .NotIn (.str ⟨#[104, 97, 110, 100]⟩) (.tup [.str ⟨#[103, 105, 118, 101]⟩, .str ⟨#[104, 97, 110, 100]⟩, .str ⟨#[102, 111, 114, 103, 101, 116]⟩]) = some false := id rfl
theorem ni_forget : cmpD .NotIn (.str ⟨#[102, 111, 114, 103, 101, 116]⟩) (.tup [.str ⟨#[103, 105, 118, 101]⟩, .str ⟨#[104, 97, 110, 100]⟩, .str ⟨#[102, 111, 114, 103, 101, 116]⟩]) = some false := id rfl
theorem ni_go : cmpD .NotIn (.str ⟨#[103, 111]⟩) (.tup [.str ⟨#[103, 105, 118, 101]⟩, .str ⟨#[104, 97, 110, 100]⟩, .str ⟨#[102, 111, 114, 103, 101, 116]⟩]) = some true := id rfl
theorem il0 (x : D) (xs : List D) : idxD (.lst (x :: xs)) (.int 0) = some x := atI_nat (j := 0) (xs := x :: xs) rfl
theorem il1 (x y : D) (xs : List D) : idxD (.lst (x :: y :: xs)) (.int 1) = some y := atI_nat (j := 1) (xs := x :: y :: xs) rfl
theorem nd_ss (a b : Str) : nd (.str a) (.str b) = !(a == b) := id rfl
theorem cn_str {x : D} (h : (chestD x || nameD x) = true) : ∃ s, x = .str s := by
  cases x <;> first | exact ⟨_, rfl⟩ | cases h
theorem tru_t (xs : List D) (st : Sto) : truV (.d (.tup xs)) st = .ok (!xs.isEmpty) st := by cases xs <;> rfl
theorem ix0 (x : D) (xs : List D) : idxD (.tup (x :: xs)) (.int 0) = some x := atI_nat (j := 0) (xs := x :: xs) rfl
theorem not_t (xs : List D) (st : Sto) : kNot (.d (.tup xs)) st = .ok (.d (.bl xs.isEmpty)) st := by cases xs <;> rfl
section
variable {t : Tbl} (T : Sub TC t) (L : Sub TL05 t) (k : Nat) {st : Sto}
include T L
theorem fits_ok (x : D) (f : Str) : Fn t (k + 2) 27 [.d x, .d (.str f)] st = .ok (.d (.bl (fitD x f))) st := by
  rw [fn_at L rfl]
  unfold fitD
  simp only [runF, startE, I27, List.map_cons, List.map_nil, List.length_cons, List.length_nil, List.replicate, List.cons_append, List.nil_append, List.append_nil, Nat.reduceAdd, Nat.reduceSub, Nat.zero_add,
      e_var, e_con, e_bin, k_bin1, k_bin2, e_neg, k_neg, e_not, k_not, e_and, k_and, e_or, k_or, e_cmp, k_cmp1, k_cmp2, e_chain, k_ch1, k_ch2, e_ite, k_ite, e_call, k_call1, k_call2, e_blt, k_blt, e_meth, k_meth1, k_meth2, e_tup, e_lst, e_dct0, e_dcd, e_idx, k_idx1, k_idx2, e_slc, k_slc1, k_slc2, k_slc3, o_none, o_some, k_o, e_new, k_new, e_lc, k_lc, lc_g, es_nil, es_cons, k_es1, k_es2, t_nil, t_cons, k_t, i_val, i_range, i_enum, k_ent, k_enl, enumD, s_par, k_par, setAll, k_body, k_turn, k_ivl, k_ivt, k_ivs,
      g_name, g_tup, g_sub, k_sub1, gs_nil, gs_cons, k_gs, s_asg, k_asg1, k_nx, s_expr, k_expr, s_ret, k_ret, s_iff, k_if, s_for, k_for, s_aug, s_pass, ss_nil, ss_cons, k_ss, bind_ok, bind_exc, bind_stuck, go_ok, go_exc, seq_nx, seq_rt, seq_exc, turn_nx, turn_rt, turn_exc, calm_ok', end_d, end_nx, end_exc, tru_bl, give, give_b, ders, der, arrD, List.getElem?_cons_zero, List.getElem?_cons_succ, List.set_cons_zero, List.set_cons_succ, if_true, if_false, Bool.false_eq_true, Bool.not_true, Bool.not_false, List.take_length,
      e_isi, k_isi, e_tin, k_tinP, k_tinN, e_tget, k_tget, g_star, i_zip, is_int_non, is_int_bl, is_int_int, is_int_str, is_int_tup, is_int_lst, is_int_dct, is_str_non, is_str_bl, is_str_int, is_str_str, is_str_tup, is_str_lst, is_str_dct, is_bool_non, is_bool_bl, is_bool_int, is_bool_str, is_bool_tup, is_bool_lst, is_bool_dct, is_tuple_non, is_tuple_bl, is_tuple_int, is_tuple_str, is_tuple_tup, is_tuple_lst, is_tuple_dct, is_list_non, is_list_bl, is_list_int, is_list_str, is_list_tup, is_list_lst, is_list_dct, is_dict_non, is_dict_bl, is_dict_int, is_dict_str, is_dict_tup, is_dict_lst, is_dict_dct,
      bfD, len_s, len_l, len_t, c_eq_ii, c_ne_ii, c_lt_ii, c_le_ii, c_gt_ii, c_ge_ii, c_is_non, c_isn_non, noneD, Int.cast_ofNat_Int, Int.reduceEq, Int.reduceLT, Int.reduceLE, decide_true, decide_false, kTup, kLst, pures, sizeLine_eq, Nat.reduceLeDiff, g_tupq, idx_q0, idx_q1, is_tuple_q, len_q, k_ivq, c_eq_ss]
  cases h1 : (f == (⟨#[109, 101, 97, 115, 117, 114, 101, 115]⟩ : Str)) <;> simp only [List.map_cons, List.map_nil, List.length_cons, List.length_nil, List.replicate, List.cons_append, List.nil_append, List.append_nil, Nat.reduceAdd, Nat.reduceSub, Nat.zero_add,
      e_var, e_con, e_bin, k_bin1, k_bin2, e_neg, k_neg, e_not, k_not, e_and, k_and, e_or, k_or, e_cmp, k_cmp1, k_cmp2, e_chain, k_ch1, k_ch2, e_ite, k_ite, e_call, k_call1, k_call2, e_blt, k_blt, e_meth, k_meth1, k_meth2, e_tup, e_lst, e_dct0, e_dcd, e_idx, k_idx1, k_idx2, e_slc, k_slc1, k_slc2, k_slc3, o_none, o_some, k_o, e_new, k_new, e_lc, k_lc, lc_g, es_nil, es_cons, k_es1, k_es2, t_nil, t_cons, k_t, i_val, i_range, i_enum, k_ent, k_enl, enumD, s_par, k_par, setAll, k_body, k_turn, k_ivl, k_ivt, k_ivs,
      g_name, g_tup, g_sub, k_sub1, gs_nil, gs_cons, k_gs, s_asg, k_asg1, k_nx, s_expr, k_expr, s_ret, k_ret, s_iff, k_if, s_for, k_for, s_aug, s_pass, ss_nil, ss_cons, k_ss, bind_ok, bind_exc, bind_stuck, go_ok, go_exc, seq_nx, seq_rt, seq_exc, turn_nx, turn_rt, turn_exc, calm_ok', end_d, end_nx, end_exc, tru_bl, give, give_b, ders, der, arrD, List.getElem?_cons_zero, List.getElem?_cons_succ, List.set_cons_zero, List.set_cons_succ, if_true, if_false, Bool.false_eq_true, Bool.not_true, Bool.not_false, List.take_length,
      e_isi, k_isi, e_tin, k_tinP, k_tinN, e_tget, k_tget, g_star, i_zip, is_int_non, is_int_bl, is_int_int, is_int_str, is_int_tup, is_int_lst, is_int_dct, is_str_non, is_str_bl, is_str_int, is_str_str, is_str_tup, is_str_lst, is_str_dct, is_bool_non, is_bool_bl, is_bool_int, is_bool_str, is_bool_tup, is_bool_lst, is_bool_dct, is_tuple_non, is_tuple_bl, is_tuple_int, is_tuple_str, is_tuple_tup, is_tuple_lst, is_tuple_dct, is_list_non, is_list_bl, is_list_int, is_list_str, is_list_tup, is_list_lst, is_list_dct, is_dict_non, is_dict_bl, is_dict_int, is_dict_str, is_dict_tup, is_dict_lst, is_dict_dct,
      bfD, len_s, len_l, len_t, c_eq_ii, c_ne_ii, c_lt_ii, c_le_ii, c_gt_ii, c_ge_ii, c_is_non, c_isn_non, noneD, Int.cast_ofNat_Int, Int.reduceEq, Int.reduceLT, Int.reduceLE, decide_true, decide_false, kTup, kLst, pures, sizeLine_eq, Nat.reduceLeDiff, g_tupq, idx_q0, idx_q1, is_tuple_q, len_q, k_ivq, h1, whole_ok T L k, is_name_ok T L k]
  cases h2 : (f == (⟨#[110, 97, 109, 101, 32, 111, 114, 32, 99, 104, 101, 115, 116]⟩ : Str)) <;> simp only [List.map_cons, List.map_nil, List.length_cons, List.length_nil, List.replicate, List.cons_append, List.nil_append, List.append_nil, Nat.reduceAdd, Nat.reduceSub, Nat.zero_add,
      e_var, e_con, e_bin, k_bin1, k_bin2, e_neg, k_neg, e_not, k_not, e_and, k_and, e_or, k_or, e_cmp, k_cmp1, k_cmp2, e_chain, k_ch1, k_ch2, e_ite, k_ite, e_call, k_call1, k_call2, e_blt, k_blt, e_meth, k_meth1, k_meth2, e_tup, e_lst, e_dct0, e_dcd, e_idx, k_idx1, k_idx2, e_slc, k_slc1, k_slc2, k_slc3, o_none, o_some, k_o, e_new, k_new, e_lc, k_lc, lc_g, es_nil, es_cons, k_es1, k_es2, t_nil, t_cons, k_t, i_val, i_range, i_enum, k_ent, k_enl, enumD, s_par, k_par, setAll, k_body, k_turn, k_ivl, k_ivt, k_ivs,
      g_name, g_tup, g_sub, k_sub1, gs_nil, gs_cons, k_gs, s_asg, k_asg1, k_nx, s_expr, k_expr, s_ret, k_ret, s_iff, k_if, s_for, k_for, s_aug, s_pass, ss_nil, ss_cons, k_ss, bind_ok, bind_exc, bind_stuck, go_ok, go_exc, seq_nx, seq_rt, seq_exc, turn_nx, turn_rt, turn_exc, calm_ok', end_d, end_nx, end_exc, tru_bl, give, give_b, ders, der, arrD, List.getElem?_cons_zero, List.getElem?_cons_succ, List.set_cons_zero, List.set_cons_succ, if_true, if_false, Bool.false_eq_true, Bool.not_true, Bool.not_false, List.take_length,
      e_isi, k_isi, e_tin, k_tinP, k_tinN, e_tget, k_tget, g_star, i_zip, is_int_non, is_int_bl, is_int_int, is_int_str, is_int_tup, is_int_lst, is_int_dct, is_str_non, is_str_bl, is_str_int, is_str_str, is_str_tup, is_str_lst, is_str_dct, is_bool_non, is_bool_bl, is_bool_int, is_bool_str, is_bool_tup, is_bool_lst, is_bool_dct, is_tuple_non, is_tuple_bl, is_tuple_int, is_tuple_str, is_tuple_tup, is_tuple_lst, is_tuple_dct, is_list_non, is_list_bl, is_list_int, is_list_str, is_list_tup, is_list_lst, is_list_dct, is_dict_non, is_dict_bl, is_dict_int, is_dict_str, is_dict_tup, is_dict_lst, is_dict_dct,
      bfD, len_s, len_l, len_t, c_eq_ii, c_ne_ii, c_lt_ii, c_le_ii, c_gt_ii, c_ge_ii, c_is_non, c_isn_non, noneD, Int.cast_ofNat_Int, Int.reduceEq, Int.reduceLT, Int.reduceLE, decide_true, decide_false, kTup, kLst, pures, sizeLine_eq, Nat.reduceLeDiff, g_tupq, idx_q0, idx_q1, is_tuple_q, len_q, k_ivq, c_eq_ss, h2, whole_ok T L k, is_name_ok T L k, Bool.true_and, Bool.false_and, Bool.false_or]
  cases x <;> simp only [List.map_cons, List.map_nil, List.length_cons, List.length_nil, List.replicate, List.cons_append, List.nil_append, List.append_nil, Nat.reduceAdd, Nat.reduceSub, Nat.zero_add,
      e_var, e_con, e_bin, k_bin1, k_bin2, e_neg, k_neg, e_not, k_not, e_and, k_and, e_or, k_or, e_cmp, k_cmp1, k_cmp2, e_chain, k_ch1, k_ch2, e_ite, k_ite, e_call, k_call1, k_call2, e_blt, k_blt, e_meth, k_meth1, k_meth2, e_tup, e_lst, e_dct0, e_dcd, e_idx, k_idx1, k_idx2, e_slc, k_slc1, k_slc2, k_slc3, o_none, o_some, k_o, e_new, k_new, e_lc, k_lc, lc_g, es_nil, es_cons, k_es1, k_es2, t_nil, t_cons, k_t, i_val, i_range, i_enum, k_ent, k_enl, enumD, s_par, k_par, setAll, k_body, k_turn, k_ivl, k_ivt, k_ivs,
      g_name, g_tup, g_sub, k_sub1, gs_nil, gs_cons, k_gs, s_asg, k_asg1, k_nx, s_expr, k_expr, s_ret, k_ret, s_iff, k_if, s_for, k_for, s_aug, s_pass, ss_nil, ss_cons, k_ss, bind_ok, bind_exc, bind_stuck, go_ok, go_exc, seq_nx, seq_rt, seq_exc, turn_nx, turn_rt, turn_exc, calm_ok', end_d, end_nx, end_exc, tru_bl, give, give_b, ders, der, arrD, List.getElem?_cons_zero, List.getElem?_cons_succ, List.set_cons_zero, List.set_cons_succ, if_true, if_false, Bool.false_eq_true, Bool.not_true, Bool.not_false, List.take_length,
      e_isi, k_isi, e_tin, k_tinP, k_tinN, e_tget, k_tget, g_star, i_zip, is_int_non, is_int_bl, is_int_int, is_int_str, is_int_tup, is_int_lst, is_int_dct, is_str_non, is_str_bl, is_str_int, is_str_str, is_str_tup, is_str_lst, is_str_dct, is_bool_non, is_bool_bl, is_bool_int, is_bool_str, is_bool_tup, is_bool_lst, is_bool_dct, is_tuple_non, is_tuple_bl, is_tuple_int, is_tuple_str, is_tuple_tup, is_tuple_lst, is_tuple_dct, is_list_non, is_list_bl, is_list_int, is_list_str, is_list_tup, is_list_lst, is_list_dct, is_dict_non, is_dict_bl, is_dict_int, is_dict_str, is_dict_tup, is_dict_lst, is_dict_dct,
      bfD, len_s, len_l, len_t, c_eq_ii, c_ne_ii, c_lt_ii, c_le_ii, c_gt_ii, c_ge_ii, c_is_non, c_isn_non, noneD, Int.cast_ofNat_Int, Int.reduceEq, Int.reduceLT, Int.reduceLE, decide_true, decide_false, kTup, kLst, pures, sizeLine_eq, Nat.reduceLeDiff, g_tupq, idx_q0, idx_q1, is_tuple_q, len_q, k_ivq, chestD, is_name_ok T L k, Bool.false_or, c_eq_ss]
  rename_i s
  have h3 : (s == chestS) = (s == ⟨#[99, 104, 101, 115, 116]⟩) := rfl
  rw [h3]
  cases h4 : (s == (⟨#[99, 104, 101, 115, 116]⟩ : Str)) <;> simp only [List.map_cons, List.map_nil, List.length_cons, List.length_nil, List.replicate, List.cons_append, List.nil_append, List.append_nil, Nat.reduceAdd, Nat.reduceSub, Nat.zero_add,
      e_var, e_con, e_bin, k_bin1, k_bin2, e_neg, k_neg, e_not, k_not, e_and, k_and, e_or, k_or, e_cmp, k_cmp1, k_cmp2, e_chain, k_ch1, k_ch2, e_ite, k_ite, e_call, k_call1, k_call2, e_blt, k_blt, e_meth, k_meth1, k_meth2, e_tup, e_lst, e_dct0, e_dcd, e_idx, k_idx1, k_idx2, e_slc, k_slc1, k_slc2, k_slc3, o_none, o_some, k_o, e_new, k_new, e_lc, k_lc, lc_g, es_nil, es_cons, k_es1, k_es2, t_nil, t_cons, k_t, i_val, i_range, i_enum, k_ent, k_enl, enumD, s_par, k_par, setAll, k_body, k_turn, k_ivl, k_ivt, k_ivs,
      g_name, g_tup, g_sub, k_sub1, gs_nil, gs_cons, k_gs, s_asg, k_asg1, k_nx, s_expr, k_expr, s_ret, k_ret, s_iff, k_if, s_for, k_for, s_aug, s_pass, ss_nil, ss_cons, k_ss, bind_ok, bind_exc, bind_stuck, go_ok, go_exc, seq_nx, seq_rt, seq_exc, turn_nx, turn_rt, turn_exc, calm_ok', end_d, end_nx, end_exc, tru_bl, give, give_b, ders, der, arrD, List.getElem?_cons_zero, List.getElem?_cons_succ, List.set_cons_zero, List.set_cons_succ, if_true, if_false, Bool.false_eq_true, Bool.not_true, Bool.not_false, List.take_length,
      e_isi, k_isi, e_tin, k_tinP, k_tinN, e_tget, k_tget, g_star, i_zip, is_int_non, is_int_bl, is_int_int, is_int_str, is_int_tup, is_int_lst, is_int_dct, is_str_non, is_str_bl, is_str_int, is_str_str, is_str_tup, is_str_lst, is_str_dct, is_bool_non, is_bool_bl, is_bool_int, is_bool_str, is_bool_tup, is_bool_lst, is_bool_dct, is_tuple_non, is_tuple_bl, is_tuple_int, is_tuple_str, is_tuple_tup, is_tuple_lst, is_tuple_dct, is_list_non, is_list_bl, is_list_int, is_list_str, is_list_tup, is_list_lst, is_list_dct, is_dict_non, is_dict_bl, is_dict_int, is_dict_str, is_dict_tup, is_dict_lst, is_dict_dct,
      bfD, len_s, len_l, len_t, c_eq_ii, c_ne_ii, c_lt_ii, c_le_ii, c_gt_ii, c_ge_ii, c_is_non, c_isn_non, noneD, Int.cast_ofNat_Int, Int.reduceEq, Int.reduceLT, Int.reduceLE, decide_true, decide_false, kTup, kLst, pures, sizeLine_eq, Nat.reduceLeDiff, g_tupq, idx_q0, idx_q1, is_tuple_q, len_q, k_ivq, h4, is_name_ok T L k, Bool.false_or, Bool.true_or]
theorem fits_lc (ps : List (D × Str)) (x0 x1 x2 : Option Vv) : lcLoop [] (lcG (Fn t (k + 2)) (.tup (.cons (.name 3) (.cons (.name 4) .nil)))) (evT (Fn t (k + 2)) .nil) (evE (Fn t (k + 2)) I28e1) [x0, x1, x2, none, none] (ps.map fun p => .tup [p.1, .str p.2]) [] st = .ok (.d (.lst (ps.map fun p => .bl (fitD p.1 p.2)))) st :=
  lc_enc (e := fun p : D × Str => D.tup [p.1, .str p.2]) (f := fun p => D.bl (fitD p.1 p.2)) ps [] fun p _ => ⟨[x0, x1, x2, some (.d p.1), some (.d (.str p.2))], by simp only [List.map_cons, List.map_nil, List.length_cons, List.length_nil, List.replicate, List.cons_append, List.nil_append, List.append_nil, Nat.reduceAdd, Nat.reduceSub, Nat.zero_add,
      e_var, e_con, e_bin, k_bin1, k_bin2, e_neg, k_neg, e_not, k_not, e_and, k_and, e_or, k_or, e_cmp, k_cmp1, k_cmp2, e_chain, k_ch1, k_ch2, e_ite, k_ite, e_call, k_call1, k_call2, e_blt, k_blt, e_meth, k_meth1, k_meth2, e_tup, e_lst, e_dct0, e_dcd, e_idx, k_idx1, k_idx2, e_slc, k_slc1, k_slc2, k_slc3, o_none, o_some, k_o, e_new, k_new, e_lc, k_lc, lc_g, es_nil, es_cons, k_es1, k_es2, t_nil, t_cons, k_t, i_val, i_range, i_enum, k_ent, k_enl, enumD, s_par, k_par, setAll, k_body, k_turn, k_ivl, k_ivt, k_ivs,
      g_name, g_tup, g_sub, k_sub1, gs_nil, gs_cons, k_gs, s_asg, k_asg1, k_nx, s_expr, k_expr, s_ret, k_ret, s_iff, k_if, s_for, k_for, s_aug, s_pass, ss_nil, ss_cons, k_ss, bind_ok, bind_exc, bind_stuck, go_ok, go_exc, seq_nx, seq_rt, seq_exc, turn_nx, turn_rt, turn_exc, calm_ok', end_d, end_nx, end_exc, tru_bl, give, give_b, ders, der, arrD, List.getElem?_cons_zero, List.getElem?_cons_succ, List.set_cons_zero, List.set_cons_succ, if_true, if_false, Bool.false_eq_true, Bool.not_true, Bool.not_false, List.take_length,
      e_isi, k_isi, e_tin, k_tinP, k_tinN, e_tget, k_tget, g_star, i_zip, is_int_non, is_int_bl, is_int_int, is_int_str, is_int_tup, is_int_lst, is_int_dct, is_str_non, is_str_bl, is_str_int, is_str_str, is_str_tup, is_str_lst, is_str_dct, is_bool_non, is_bool_bl, is_bool_int, is_bool_str, is_bool_tup, is_bool_lst, is_bool_dct, is_tuple_non, is_tuple_bl, is_tuple_int, is_tuple_str, is_tuple_tup, is_tuple_lst, is_tuple_dct, is_list_non, is_list_bl, is_list_int, is_list_str, is_list_tup, is_list_lst, is_list_dct, is_dict_non, is_dict_bl, is_dict_int, is_dict_str, is_dict_tup, is_dict_lst, is_dict_dct,
      bfD, len_s, len_l, len_t, c_eq_ii, c_ne_ii, c_lt_ii, c_le_ii, c_gt_ii, c_ge_ii, c_is_non, c_isn_non, noneD, Int.cast_ofNat_Int, Int.reduceEq, Int.reduceLT, Int.reduceLE, decide_true, decide_false, kTup, kLst, pures, sizeLine_eq, Nat.reduceLeDiff, g_tupq, idx_q0, idx_q1, is_tuple_q, len_q, k_ivq], rfl, by simp only [I28e1, List.map_cons, List.map_nil, List.length_cons, List.length_nil, List.replicate, List.cons_append, List.nil_append, List.append_nil, Nat.reduceAdd, Nat.reduceSub, Nat.zero_add,
      e_var, e_con, e_bin, k_bin1, k_bin2, e_neg, k_neg, e_not, k_not, e_and, k_and, e_or, k_or, e_cmp, k_cmp1, k_cmp2, e_chain, k_ch1, k_ch2, e_ite, k_ite, e_call, k_call1, k_call2, e_blt, k_blt, e_meth, k_meth1, k_meth2, e_tup, e_lst, e_dct0, e_dcd, e_idx, k_idx1, k_idx2, e_slc, k_slc1, k_slc2, k_slc3, o_none, o_some, k_o, e_new, k_new, e_lc, k_lc, lc_g, es_nil, es_cons, k_es1, k_es2, t_nil, t_cons, k_t, i_val, i_range, i_enum, k_ent, k_enl, enumD, s_par, k_par, setAll, k_body, k_turn, k_ivl, k_ivt, k_ivs,
      g_name, g_tup, g_sub, k_sub1, gs_nil, gs_cons, k_gs, s_asg, k_asg1, k_nx, s_expr, k_expr, s_ret, k_ret, s_iff, k_if, s_for, k_for, s_aug, s_pass, ss_nil, ss_cons, k_ss, bind_ok, bind_exc, bind_stuck, go_ok, go_exc, seq_nx, seq_rt, seq_exc, turn_nx, turn_rt, turn_exc, calm_ok', end_d, end_nx, end_exc, tru_bl, give, give_b, ders, der, arrD, List.getElem?_cons_zero, List.getElem?_cons_succ, List.set_cons_zero, List.set_cons_succ, if_true, if_false, Bool.false_eq_true, Bool.not_true, Bool.not_false, List.take_length,
      e_isi, k_isi, e_tin, k_tinP, k_tinN, e_tget, k_tget, g_star, i_zip, is_int_non, is_int_bl, is_int_int, is_int_str, is_int_tup, is_int_lst, is_int_dct, is_str_non, is_str_bl, is_str_int, is_str_str, is_str_tup, is_str_lst, is_str_dct, is_bool_non, is_bool_bl, is_bool_int, is_bool_str, is_bool_tup, is_bool_lst, is_bool_dct, is_tuple_non, is_tuple_bl, is_tuple_int, is_tuple_str, is_tuple_tup, is_tuple_lst, is_tuple_dct, is_list_non, is_list_bl, is_list_int, is_list_str, is_list_tup, is_list_lst, is_list_dct, is_dict_non, is_dict_bl, is_dict_int, is_dict_str, is_dict_tup, is_dict_lst, is_dict_dct,
      bfD, len_s, len_l, len_t, c_eq_ii, c_ne_ii, c_lt_ii, c_le_ii, c_gt_ii, c_ge_ii, c_is_non, c_isn_non, noneD, Int.cast_ofNat_Int, Int.reduceEq, Int.reduceLT, Int.reduceLE, decide_true, decide_false, kTup, kLst, pures, sizeLine_eq, Nat.reduceLeDiff, g_tupq, idx_q0, idx_q1, is_tuple_q, len_q, k_ivq, fits_ok T L k]⟩
theorem is_deed_ok (x : D) : Fn t (k + 3) 28 [.d x] st = .ok (.d (.bl (deedD x))) st := by
  rw [fn_at L rfl]
  simp only [runF, startE, I28, List.map_cons, List.map_nil, List.length_cons, List.length_nil, List.replicate, List.cons_append, List.nil_append, List.append_nil, Nat.reduceAdd, Nat.reduceSub, Nat.zero_add,
      e_var, e_con, e_bin, k_bin1, k_bin2, e_neg, k_neg, e_not, k_not, e_and, k_and, e_or, k_or, e_cmp, k_cmp1, k_cmp2, e_chain, k_ch1, k_ch2, e_ite, k_ite, e_call, k_call1, k_call2, e_blt, k_blt, e_meth, k_meth1, k_meth2, e_tup, e_lst, e_dct0, e_dcd, e_idx, k_idx1, k_idx2, e_slc, k_slc1, k_slc2, k_slc3, o_none, o_some, k_o, e_new, k_new, e_lc, k_lc, lc_g, es_nil, es_cons, k_es1, k_es2, t_nil, t_cons, k_t, i_val, i_range, i_enum, k_ent, k_enl, enumD, s_par, k_par, setAll, k_body, k_turn, k_ivl, k_ivt, k_ivs,
      g_name, g_tup, g_sub, k_sub1, gs_nil, gs_cons, k_gs, s_asg, k_asg1, k_nx, s_expr, k_expr, s_ret, k_ret, s_iff, k_if, s_for, k_for, s_aug, s_pass, ss_nil, ss_cons, k_ss, bind_ok, bind_exc, bind_stuck, go_ok, go_exc, seq_nx, seq_rt, seq_exc, turn_nx, turn_rt, turn_exc, calm_ok', end_d, end_nx, end_exc, tru_bl, give, give_b, ders, der, arrD, List.getElem?_cons_zero, List.getElem?_cons_succ, List.set_cons_zero, List.set_cons_succ, if_true, if_false, Bool.false_eq_true, Bool.not_true, Bool.not_false, List.take_length,
      e_isi, k_isi, e_tin, k_tinP, k_tinN, e_tget, k_tget, g_star, i_zip, is_int_non, is_int_bl, is_int_int, is_int_str, is_int_tup, is_int_lst, is_int_dct, is_str_non, is_str_bl, is_str_int, is_str_str, is_str_tup, is_str_lst, is_str_dct, is_bool_non, is_bool_bl, is_bool_int, is_bool_str, is_bool_tup, is_bool_lst, is_bool_dct, is_tuple_non, is_tuple_bl, is_tuple_int, is_tuple_str, is_tuple_tup, is_tuple_lst, is_tuple_dct, is_list_non, is_list_bl, is_list_int, is_list_str, is_list_tup, is_list_lst, is_list_dct, is_dict_non, is_dict_bl, is_dict_int, is_dict_str, is_dict_tup, is_dict_lst, is_dict_dct,
      bfD, len_s, len_l, len_t, c_eq_ii, c_ne_ii, c_lt_ii, c_le_ii, c_gt_ii, c_ge_ii, c_is_non, c_isn_non, noneD, Int.cast_ofNat_Int, Int.reduceEq, Int.reduceLT, Int.reduceLE, decide_true, decide_false, kTup, kLst, pures, sizeLine_eq, Nat.reduceLeDiff, g_tupq, idx_q0, idx_q1, is_tuple_q, len_q, k_ivq]
  cases x with
  | tup xs =>
    cases xs with
    | nil => simp only [List.map_cons, List.map_nil, List.length_cons, List.length_nil, List.replicate, List.cons_append, List.nil_append, List.append_nil, Nat.reduceAdd, Nat.reduceSub, Nat.zero_add,
      e_var, e_con, e_bin, k_bin1, k_bin2, e_neg, k_neg, e_not, k_not, e_and, k_and, e_or, k_or, e_cmp, k_cmp1, k_cmp2, e_chain, k_ch1, k_ch2, e_ite, k_ite, e_call, k_call1, k_call2, e_blt, k_blt, e_meth, k_meth1, k_meth2, e_tup, e_lst, e_dct0, e_dcd, e_idx, k_idx1, k_idx2, e_slc, k_slc1, k_slc2, k_slc3, o_none, o_some, k_o, e_new, k_new, e_lc, k_lc, lc_g, es_nil, es_cons, k_es1, k_es2, t_nil, t_cons, k_t, i_val, i_range, i_enum, k_ent, k_enl, enumD, s_par, k_par, setAll, k_body, k_turn, k_ivl, k_ivt, k_ivs,
      g_name, g_tup, g_sub, k_sub1, gs_nil, gs_cons, k_gs, s_asg, k_asg1, k_nx, s_expr, k_expr, s_ret, k_ret, s_iff, k_if, s_for, k_for, s_aug, s_pass, ss_nil, ss_cons, k_ss, bind_ok, bind_exc, bind_stuck, go_ok, go_exc, seq_nx, seq_rt, seq_exc, turn_nx, turn_rt, turn_exc, calm_ok', end_d, end_nx, end_exc, tru_bl, give, give_b, ders, der, arrD, List.getElem?_cons_zero, List.getElem?_cons_succ, List.set_cons_zero, List.set_cons_succ, if_true, if_false, Bool.false_eq_true, Bool.not_true, Bool.not_false, List.take_length,
      e_isi, k_isi, e_tin, k_tinP, k_tinN, e_tget, k_tget, g_star, i_zip, is_int_non, is_int_bl, is_int_int, is_int_str, is_int_tup, is_int_lst, is_int_dct, is_str_non, is_str_bl, is_str_int, is_str_str, is_str_tup, is_str_lst, is_str_dct, is_bool_non, is_bool_bl, is_bool_int, is_bool_str, is_bool_tup, is_bool_lst, is_bool_dct, is_tuple_non, is_tuple_bl, is_tuple_int, is_tuple_str, is_tuple_tup, is_tuple_lst, is_tuple_dct, is_list_non, is_list_bl, is_list_int, is_list_str, is_list_tup, is_list_lst, is_list_dct, is_dict_non, is_dict_bl, is_dict_int, is_dict_str, is_dict_tup, is_dict_lst, is_dict_dct,
      bfD, len_s, len_l, len_t, c_eq_ii, c_ne_ii, c_lt_ii, c_le_ii, c_gt_ii, c_ge_ii, c_is_non, c_isn_non, noneD, Int.cast_ofNat_Int, Int.reduceEq, Int.reduceLT, Int.reduceLE, decide_true, decide_false, kTup, kLst, pures, sizeLine_eq, Nat.reduceLeDiff, g_tupq, idx_q0, idx_q1, is_tuple_q, len_q, k_ivq, not_t, List.isEmpty_nil, deedD]
    | cons y ys =>
      simp only [List.map_cons, List.map_nil, List.length_cons, List.length_nil, List.replicate, List.cons_append, List.nil_append, List.append_nil, Nat.reduceAdd, Nat.reduceSub, Nat.zero_add,
      e_var, e_con, e_bin, k_bin1, k_bin2, e_neg, k_neg, e_not, k_not, e_and, k_and, e_or, k_or, e_cmp, k_cmp1, k_cmp2, e_chain, k_ch1, k_ch2, e_ite, k_ite, e_call, k_call1, k_call2, e_blt, k_blt, e_meth, k_meth1, k_meth2, e_tup, e_lst, e_dct0, e_dcd, e_idx, k_idx1, k_idx2, e_slc, k_slc1, k_slc2, k_slc3, o_none, o_some, k_o, e_new, k_new, e_lc, k_lc, lc_g, es_nil, es_cons, k_es1, k_es2, t_nil, t_cons, k_t, i_val, i_range, i_enum, k_ent, k_enl, enumD, s_par, k_par, setAll, k_body, k_turn, k_ivl, k_ivt, k_ivs,
      g_name, g_tup, g_sub, k_sub1, gs_nil, gs_cons, k_gs, s_asg, k_asg1, k_nx, s_expr, k_expr, s_ret, k_ret, s_iff, k_if, s_for, k_for, s_aug, s_pass, ss_nil, ss_cons, k_ss, bind_ok, bind_exc, bind_stuck, go_ok, go_exc, seq_nx, seq_rt, seq_exc, turn_nx, turn_rt, turn_exc, calm_ok', end_d, end_nx, end_exc, tru_bl, give, give_b, ders, der, arrD, List.getElem?_cons_zero, List.getElem?_cons_succ, List.set_cons_zero, List.set_cons_succ, if_true, if_false, Bool.false_eq_true, Bool.not_true, Bool.not_false, List.take_length,
      e_isi, k_isi, e_tin, k_tinP, k_tinN, e_tget, k_tget, g_star, i_zip, is_int_non, is_int_bl, is_int_int, is_int_str, is_int_tup, is_int_lst, is_int_dct, is_str_non, is_str_bl, is_str_int, is_str_str, is_str_tup, is_str_lst, is_str_dct, is_bool_non, is_bool_bl, is_bool_int, is_bool_str, is_bool_tup, is_bool_lst, is_bool_dct, is_tuple_non, is_tuple_bl, is_tuple_int, is_tuple_str, is_tuple_tup, is_tuple_lst, is_tuple_dct, is_list_non, is_list_bl, is_list_int, is_list_str, is_list_tup, is_list_lst, is_list_dct, is_dict_non, is_dict_bl, is_dict_int, is_dict_str, is_dict_tup, is_dict_lst, is_dict_dct,
      bfD, len_s, len_l, len_t, c_eq_ii, c_ne_ii, c_lt_ii, c_le_ii, c_gt_ii, c_ge_ii, c_is_non, c_isn_non, noneD, Int.cast_ofNat_Int, Int.reduceEq, Int.reduceLT, Int.reduceLE, decide_true, decide_false, kTup, kLst, pures, sizeLine_eq, Nat.reduceLeDiff, g_tupq, idx_q0, idx_q1, is_tuple_q, len_q, k_ivq, not_t, List.isEmpty_cons, ix0]
      cases y with
      | str w =>
        by_cases w0 : w = comeS
        · have hw : w = ⟨#[99, 111, 109, 101]⟩ := w0
          subst hw
          clear w0
          by_cases hn : ys.length = 1
          · obtain ⟨a, rfl⟩ : ∃ a, ys = [a] := by
              match ys, hn with
              | [a], _ => exact ⟨_, rfl⟩
            have hl := fits_lc T L k (st := st) [(a, ⟨#[110, 97, 109, 101]⟩)] (some (.d (.tup (.str ⟨#[99, 111, 109, 101]⟩ :: [a])))) (some (.d (.str ⟨#[99, 111, 109, 101]⟩))) (some (.d (.lst [a])))
            simp only [List.map_cons, List.map_nil, fit_n] at hl
            simp only [List.map_cons, List.map_nil, List.length_cons, List.length_nil, List.replicate, List.cons_append, List.nil_append, List.append_nil, Nat.reduceAdd, Nat.reduceSub, Nat.zero_add,
      e_var, e_con, e_bin, k_bin1, k_bin2, e_neg, k_neg, e_not, k_not, e_and, k_and, e_or, k_or, e_cmp, k_cmp1, k_cmp2, e_chain, k_ch1, k_ch2, e_ite, k_ite, e_call, k_call1, k_call2, e_blt, k_blt, e_meth, k_meth1, k_meth2, e_tup, e_lst, e_dct0, e_dcd, e_idx, k_idx1, k_idx2, e_slc, k_slc1, k_slc2, k_slc3, o_none, o_some, k_o, e_new, k_new, e_lc, k_lc, lc_g, es_nil, es_cons, k_es1, k_es2, t_nil, t_cons, k_t, i_val, i_range, i_enum, k_ent, k_enl, enumD, s_par, k_par, setAll, k_body, k_turn, k_ivl, k_ivt, k_ivs,
      g_name, g_tup, g_sub, k_sub1, gs_nil, gs_cons, k_gs, s_asg, k_asg1, k_nx, s_expr, k_expr, s_ret, k_ret, s_iff, k_if, s_for, k_for, s_aug, s_pass, ss_nil, ss_cons, k_ss, bind_ok, bind_exc, bind_stuck, go_ok, go_exc, seq_nx, seq_rt, seq_exc, turn_nx, turn_rt, turn_exc, calm_ok', end_d, end_nx, end_exc, tru_bl, give, give_b, ders, der, arrD, List.getElem?_cons_zero, List.getElem?_cons_succ, List.set_cons_zero, List.set_cons_succ, if_true, if_false, Bool.false_eq_true, Bool.not_true, Bool.not_false, List.take_length,
      e_isi, k_isi, e_tin, k_tinP, k_tinN, e_tget, k_tget, g_star, i_zip, is_int_non, is_int_bl, is_int_int, is_int_str, is_int_tup, is_int_lst, is_int_dct, is_str_non, is_str_bl, is_str_int, is_str_str, is_str_tup, is_str_lst, is_str_dct, is_bool_non, is_bool_bl, is_bool_int, is_bool_str, is_bool_tup, is_bool_lst, is_bool_dct, is_tuple_non, is_tuple_bl, is_tuple_int, is_tuple_str, is_tuple_tup, is_tuple_lst, is_tuple_dct, is_list_non, is_list_bl, is_list_int, is_list_str, is_list_tup, is_list_lst, is_list_dct, is_dict_non, is_dict_bl, is_dict_int, is_dict_str, is_dict_tup, is_dict_lst, is_dict_dct,
      bfD, len_s, len_l, len_t, c_eq_ii, c_ne_ii, c_lt_ii, c_le_ii, c_gt_ii, c_ge_ii, c_is_non, c_isn_non, noneD, Int.cast_ofNat_Int, Int.reduceEq, Int.reduceLT, Int.reduceLE, decide_true, decide_false, kTup, kLst, pures, sizeLine_eq, Nat.reduceLeDiff, g_tupq, idx_q0, idx_q1, is_tuple_q, len_q, k_ivq, ix0, lk_come, Option.isSome_some, star_t, zip_lt, zipD, wipeE, hl, allD, bools, List.all_cons, List.all_nil, id, dd_come]
            cases g0 : nameD a <;> simp only [List.map_cons, List.map_nil, List.length_cons, List.length_nil, List.replicate, List.cons_append, List.nil_append, List.append_nil, Nat.reduceAdd, Nat.reduceSub, Nat.zero_add,
      e_var, e_con, e_bin, k_bin1, k_bin2, e_neg, k_neg, e_not, k_not, e_and, k_and, e_or, k_or, e_cmp, k_cmp1, k_cmp2, e_chain, k_ch1, k_ch2, e_ite, k_ite, e_call, k_call1, k_call2, e_blt, k_blt, e_meth, k_meth1, k_meth2, e_tup, e_lst, e_dct0, e_dcd, e_idx, k_idx1, k_idx2, e_slc, k_slc1, k_slc2, k_slc3, o_none, o_some, k_o, e_new, k_new, e_lc, k_lc, lc_g, es_nil, es_cons, k_es1, k_es2, t_nil, t_cons, k_t, i_val, i_range, i_enum, k_ent, k_enl, enumD, s_par, k_par, setAll, k_body, k_turn, k_ivl, k_ivt, k_ivs,
      g_name, g_tup, g_sub, k_sub1, gs_nil, gs_cons, k_gs, s_asg, k_asg1, k_nx, s_expr, k_expr, s_ret, k_ret, s_iff, k_if, s_for, k_for, s_aug, s_pass, ss_nil, ss_cons, k_ss, bind_ok, bind_exc, bind_stuck, go_ok, go_exc, seq_nx, seq_rt, seq_exc, turn_nx, turn_rt, turn_exc, calm_ok', end_d, end_nx, end_exc, tru_bl, give, give_b, ders, der, arrD, List.getElem?_cons_zero, List.getElem?_cons_succ, List.set_cons_zero, List.set_cons_succ, if_true, if_false, Bool.false_eq_true, Bool.not_true, Bool.not_false, List.take_length,
      e_isi, k_isi, e_tin, k_tinP, k_tinN, e_tget, k_tget, g_star, i_zip, is_int_non, is_int_bl, is_int_int, is_int_str, is_int_tup, is_int_lst, is_int_dct, is_str_non, is_str_bl, is_str_int, is_str_str, is_str_tup, is_str_lst, is_str_dct, is_bool_non, is_bool_bl, is_bool_int, is_bool_str, is_bool_tup, is_bool_lst, is_bool_dct, is_tuple_non, is_tuple_bl, is_tuple_int, is_tuple_str, is_tuple_tup, is_tuple_lst, is_tuple_dct, is_list_non, is_list_bl, is_list_int, is_list_str, is_list_tup, is_list_lst, is_list_dct, is_dict_non, is_dict_bl, is_dict_int, is_dict_str, is_dict_tup, is_dict_lst, is_dict_dct,
      bfD, len_s, len_l, len_t, c_eq_ii, c_ne_ii, c_lt_ii, c_le_ii, c_gt_ii, c_ge_ii, c_is_non, c_isn_non, noneD, Int.cast_ofNat_Int, Int.reduceEq, Int.reduceLT, Int.reduceLE, decide_true, decide_false, kTup, kLst, pures, sizeLine_eq, Nat.reduceLeDiff, g_tupq, idx_q0, idx_q1, is_tuple_q, len_q, k_ivq, Bool.true_and, Bool.and_true, Bool.false_and, Bool.and_false, ni_come]
          · have hd : decide ((ys.length : Int) = 1) = false := by rw [decide_eq_false_iff_not]; omega
            simp only [List.map_cons, List.map_nil, List.length_cons, List.length_nil, List.replicate, List.cons_append, List.nil_append, List.append_nil, Nat.reduceAdd, Nat.reduceSub, Nat.zero_add,
      e_var, e_con, e_bin, k_bin1, k_bin2, e_neg, k_neg, e_not, k_not, e_and, k_and, e_or, k_or, e_cmp, k_cmp1, k_cmp2, e_chain, k_ch1, k_ch2, e_ite, k_ite, e_call, k_call1, k_call2, e_blt, k_blt, e_meth, k_meth1, k_meth2, e_tup, e_lst, e_dct0, e_dcd, e_idx, k_idx1, k_idx2, e_slc, k_slc1, k_slc2, k_slc3, o_none, o_some, k_o, e_new, k_new, e_lc, k_lc, lc_g, es_nil, es_cons, k_es1, k_es2, t_nil, t_cons, k_t, i_val, i_range, i_enum, k_ent, k_enl, enumD, s_par, k_par, setAll, k_body, k_turn, k_ivl, k_ivt, k_ivs,
      g_name, g_tup, g_sub, k_sub1, gs_nil, gs_cons, k_gs, s_asg, k_asg1, k_nx, s_expr, k_expr, s_ret, k_ret, s_iff, k_if, s_for, k_for, s_aug, s_pass, ss_nil, ss_cons, k_ss, bind_ok, bind_exc, bind_stuck, go_ok, go_exc, seq_nx, seq_rt, seq_exc, turn_nx, turn_rt, turn_exc, calm_ok', end_d, end_nx, end_exc, tru_bl, give, give_b, ders, der, arrD, List.getElem?_cons_zero, List.getElem?_cons_succ, List.set_cons_zero, List.set_cons_succ, if_true, if_false, Bool.false_eq_true, Bool.not_true, Bool.not_false, List.take_length,
      e_isi, k_isi, e_tin, k_tinP, k_tinN, e_tget, k_tget, g_star, i_zip, is_int_non, is_int_bl, is_int_int, is_int_str, is_int_tup, is_int_lst, is_int_dct, is_str_non, is_str_bl, is_str_int, is_str_str, is_str_tup, is_str_lst, is_str_dct, is_bool_non, is_bool_bl, is_bool_int, is_bool_str, is_bool_tup, is_bool_lst, is_bool_dct, is_tuple_non, is_tuple_bl, is_tuple_int, is_tuple_str, is_tuple_tup, is_tuple_lst, is_tuple_dct, is_list_non, is_list_bl, is_list_int, is_list_str, is_list_tup, is_list_lst, is_list_dct, is_dict_non, is_dict_bl, is_dict_int, is_dict_str, is_dict_tup, is_dict_lst, is_dict_dct,
      bfD, len_s, len_l, len_t, c_eq_ii, c_ne_ii, c_lt_ii, c_le_ii, c_gt_ii, c_ge_ii, c_is_non, c_isn_non, noneD, Int.cast_ofNat_Int, Int.reduceEq, Int.reduceLT, Int.reduceLE, decide_true, decide_false, kTup, kLst, pures, sizeLine_eq, Nat.reduceLeDiff, g_tupq, idx_q0, idx_q1, is_tuple_q, len_q, k_ivq, ix0, lk_come, Option.isSome_some, star_t, hd]
            rcases ys with _ | ⟨a, _ | ⟨b, _ | ⟨c, _ | ⟨d, _ | ⟨e, r⟩⟩⟩⟩⟩ <;> first | rfl | exact absurd rfl hn
        by_cases w1 : w = bringS
        · have hw : w = ⟨#[98, 114, 105, 110, 103]⟩ := w1
          subst hw
          clear w0 w1
          by_cases hn : ys.length = 3
          · obtain ⟨a, b, c, rfl⟩ : ∃ a b c, ys = [a, b, c] := by
              match ys, hn with
              | [a, b, c], _ => exact ⟨_, _, _, rfl⟩
            have hl := fits_lc T L k (st := st) [(a, ⟨#[110, 97, 109, 101]⟩), (b, ⟨#[110, 97, 109, 101]⟩), (c, ⟨#[109, 101, 97, 115, 117, 114, 101, 115]⟩)] (some (.d (.tup (.str ⟨#[98, 114, 105, 110, 103]⟩ :: [a, b, c])))) (some (.d (.str ⟨#[98, 114, 105, 110, 103]⟩))) (some (.d (.lst [a, b, c])))
            simp only [List.map_cons, List.map_nil, fit_m, fit_n] at hl
            simp only [List.map_cons, List.map_nil, List.length_cons, List.length_nil, List.replicate, List.cons_append, List.nil_append, List.append_nil, Nat.reduceAdd, Nat.reduceSub, Nat.zero_add,
      e_var, e_con, e_bin, k_bin1, k_bin2, e_neg, k_neg, e_not, k_not, e_and, k_and, e_or, k_or, e_cmp, k_cmp1, k_cmp2, e_chain, k_ch1, k_ch2, e_ite, k_ite, e_call, k_call1, k_call2, e_blt, k_blt, e_meth, k_meth1, k_meth2, e_tup, e_lst, e_dct0, e_dcd, e_idx, k_idx1, k_idx2, e_slc, k_slc1, k_slc2, k_slc3, o_none, o_some, k_o, e_new, k_new, e_lc, k_lc, lc_g, es_nil, es_cons, k_es1, k_es2, t_nil, t_cons, k_t, i_val, i_range, i_enum, k_ent, k_enl, enumD, s_par, k_par, setAll, k_body, k_turn, k_ivl, k_ivt, k_ivs,
      g_name, g_tup, g_sub, k_sub1, gs_nil, gs_cons, k_gs, s_asg, k_asg1, k_nx, s_expr, k_expr, s_ret, k_ret, s_iff, k_if, s_for, k_for, s_aug, s_pass, ss_nil, ss_cons, k_ss, bind_ok, bind_exc, bind_stuck, go_ok, go_exc, seq_nx, seq_rt, seq_exc, turn_nx, turn_rt, turn_exc, calm_ok', end_d, end_nx, end_exc, tru_bl, give, give_b, ders, der, arrD, List.getElem?_cons_zero, List.getElem?_cons_succ, List.set_cons_zero, List.set_cons_succ, if_true, if_false, Bool.false_eq_true, Bool.not_true, Bool.not_false, List.take_length,
      e_isi, k_isi, e_tin, k_tinP, k_tinN, e_tget, k_tget, g_star, i_zip, is_int_non, is_int_bl, is_int_int, is_int_str, is_int_tup, is_int_lst, is_int_dct, is_str_non, is_str_bl, is_str_int, is_str_str, is_str_tup, is_str_lst, is_str_dct, is_bool_non, is_bool_bl, is_bool_int, is_bool_str, is_bool_tup, is_bool_lst, is_bool_dct, is_tuple_non, is_tuple_bl, is_tuple_int, is_tuple_str, is_tuple_tup, is_tuple_lst, is_tuple_dct, is_list_non, is_list_bl, is_list_int, is_list_str, is_list_tup, is_list_lst, is_list_dct, is_dict_non, is_dict_bl, is_dict_int, is_dict_str, is_dict_tup, is_dict_lst, is_dict_dct,
      bfD, len_s, len_l, len_t, c_eq_ii, c_ne_ii, c_lt_ii, c_le_ii, c_gt_ii, c_ge_ii, c_is_non, c_isn_non, noneD, Int.cast_ofNat_Int, Int.reduceEq, Int.reduceLT, Int.reduceLE, decide_true, decide_false, kTup, kLst, pures, sizeLine_eq, Nat.reduceLeDiff, g_tupq, idx_q0, idx_q1, is_tuple_q, len_q, k_ivq, ix0, lk_bring, Option.isSome_some, star_t, zip_lt, zipD, wipeE, hl, allD, bools, List.all_cons, List.all_nil, id, dd_bring]
            cases g0 : nameD a <;> simp only [List.map_cons, List.map_nil, List.length_cons, List.length_nil, List.replicate, List.cons_append, List.nil_append, List.append_nil, Nat.reduceAdd, Nat.reduceSub, Nat.zero_add,
      e_var, e_con, e_bin, k_bin1, k_bin2, e_neg, k_neg, e_not, k_not, e_and, k_and, e_or, k_or, e_cmp, k_cmp1, k_cmp2, e_chain, k_ch1, k_ch2, e_ite, k_ite, e_call, k_call1, k_call2, e_blt, k_blt, e_meth, k_meth1, k_meth2, e_tup, e_lst, e_dct0, e_dcd, e_idx, k_idx1, k_idx2, e_slc, k_slc1, k_slc2, k_slc3, o_none, o_some, k_o, e_new, k_new, e_lc, k_lc, lc_g, es_nil, es_cons, k_es1, k_es2, t_nil, t_cons, k_t, i_val, i_range, i_enum, k_ent, k_enl, enumD, s_par, k_par, setAll, k_body, k_turn, k_ivl, k_ivt, k_ivs,
      g_name, g_tup, g_sub, k_sub1, gs_nil, gs_cons, k_gs, s_asg, k_asg1, k_nx, s_expr, k_expr, s_ret, k_ret, s_iff, k_if, s_for, k_for, s_aug, s_pass, ss_nil, ss_cons, k_ss, bind_ok, bind_exc, bind_stuck, go_ok, go_exc, seq_nx, seq_rt, seq_exc, turn_nx, turn_rt, turn_exc, calm_ok', end_d, end_nx, end_exc, tru_bl, give, give_b, ders, der, arrD, List.getElem?_cons_zero, List.getElem?_cons_succ, List.set_cons_zero, List.set_cons_succ, if_true, if_false, Bool.false_eq_true, Bool.not_true, Bool.not_false, List.take_length,
      e_isi, k_isi, e_tin, k_tinP, k_tinN, e_tget, k_tget, g_star, i_zip, is_int_non, is_int_bl, is_int_int, is_int_str, is_int_tup, is_int_lst, is_int_dct, is_str_non, is_str_bl, is_str_int, is_str_str, is_str_tup, is_str_lst, is_str_dct, is_bool_non, is_bool_bl, is_bool_int, is_bool_str, is_bool_tup, is_bool_lst, is_bool_dct, is_tuple_non, is_tuple_bl, is_tuple_int, is_tuple_str, is_tuple_tup, is_tuple_lst, is_tuple_dct, is_list_non, is_list_bl, is_list_int, is_list_str, is_list_tup, is_list_lst, is_list_dct, is_dict_non, is_dict_bl, is_dict_int, is_dict_str, is_dict_tup, is_dict_lst, is_dict_dct,
      bfD, len_s, len_l, len_t, c_eq_ii, c_ne_ii, c_lt_ii, c_le_ii, c_gt_ii, c_ge_ii, c_is_non, c_isn_non, noneD, Int.cast_ofNat_Int, Int.reduceEq, Int.reduceLT, Int.reduceLE, decide_true, decide_false, kTup, kLst, pures, sizeLine_eq, Nat.reduceLeDiff, g_tupq, idx_q0, idx_q1, is_tuple_q, len_q, k_ivq, Bool.true_and, Bool.and_true, Bool.false_and, Bool.and_false, ni_bring]
            cases g1 : nameD b <;> simp only [List.map_cons, List.map_nil, List.length_cons, List.length_nil, List.replicate, List.cons_append, List.nil_append, List.append_nil, Nat.reduceAdd, Nat.reduceSub, Nat.zero_add,
      e_var, e_con, e_bin, k_bin1, k_bin2, e_neg, k_neg, e_not, k_not, e_and, k_and, e_or, k_or, e_cmp, k_cmp1, k_cmp2, e_chain, k_ch1, k_ch2, e_ite, k_ite, e_call, k_call1, k_call2, e_blt, k_blt, e_meth, k_meth1, k_meth2, e_tup, e_lst, e_dct0, e_dcd, e_idx, k_idx1, k_idx2, e_slc, k_slc1, k_slc2, k_slc3, o_none, o_some, k_o, e_new, k_new, e_lc, k_lc, lc_g, es_nil, es_cons, k_es1, k_es2, t_nil, t_cons, k_t, i_val, i_range, i_enum, k_ent, k_enl, enumD, s_par, k_par, setAll, k_body, k_turn, k_ivl, k_ivt, k_ivs,
      g_name, g_tup, g_sub, k_sub1, gs_nil, gs_cons, k_gs, s_asg, k_asg1, k_nx, s_expr, k_expr, s_ret, k_ret, s_iff, k_if, s_for, k_for, s_aug, s_pass, ss_nil, ss_cons, k_ss, bind_ok, bind_exc, bind_stuck, go_ok, go_exc, seq_nx, seq_rt, seq_exc, turn_nx, turn_rt, turn_exc, calm_ok', end_d, end_nx, end_exc, tru_bl, give, give_b, ders, der, arrD, List.getElem?_cons_zero, List.getElem?_cons_succ, List.set_cons_zero, List.set_cons_succ, if_true, if_false, Bool.false_eq_true, Bool.not_true, Bool.not_false, List.take_length,
      e_isi, k_isi, e_tin, k_tinP, k_tinN, e_tget, k_tget, g_star, i_zip, is_int_non, is_int_bl, is_int_int, is_int_str, is_int_tup, is_int_lst, is_int_dct, is_str_non, is_str_bl, is_str_int, is_str_str, is_str_tup, is_str_lst, is_str_dct, is_bool_non, is_bool_bl, is_bool_int, is_bool_str, is_bool_tup, is_bool_lst, is_bool_dct, is_tuple_non, is_tuple_bl, is_tuple_int, is_tuple_str, is_tuple_tup, is_tuple_lst, is_tuple_dct, is_list_non, is_list_bl, is_list_int, is_list_str, is_list_tup, is_list_lst, is_list_dct, is_dict_non, is_dict_bl, is_dict_int, is_dict_str, is_dict_tup, is_dict_lst, is_dict_dct,
      bfD, len_s, len_l, len_t, c_eq_ii, c_ne_ii, c_lt_ii, c_le_ii, c_gt_ii, c_ge_ii, c_is_non, c_isn_non, noneD, Int.cast_ofNat_Int, Int.reduceEq, Int.reduceLT, Int.reduceLE, decide_true, decide_false, kTup, kLst, pures, sizeLine_eq, Nat.reduceLeDiff, g_tupq, idx_q0, idx_q1, is_tuple_q, len_q, k_ivq, Bool.true_and, Bool.and_true, Bool.false_and, Bool.and_false, ni_bring]
            cases g2 : wholeD c 1 9999 <;> simp only [List.map_cons, List.map_nil, List.length_cons, List.length_nil, List.replicate, List.cons_append, List.nil_append, List.append_nil, Nat.reduceAdd, Nat.reduceSub, Nat.zero_add,
      e_var, e_con, e_bin, k_bin1, k_bin2, e_neg, k_neg, e_not, k_not, e_and, k_and, e_or, k_or, e_cmp, k_cmp1, k_cmp2, e_chain, k_ch1, k_ch2, e_ite, k_ite, e_call, k_call1, k_call2, e_blt, k_blt, e_meth, k_meth1, k_meth2, e_tup, e_lst, e_dct0, e_dcd, e_idx, k_idx1, k_idx2, e_slc, k_slc1, k_slc2, k_slc3, o_none, o_some, k_o, e_new, k_new, e_lc, k_lc, lc_g, es_nil, es_cons, k_es1, k_es2, t_nil, t_cons, k_t, i_val, i_range, i_enum, k_ent, k_enl, enumD, s_par, k_par, setAll, k_body, k_turn, k_ivl, k_ivt, k_ivs,
      g_name, g_tup, g_sub, k_sub1, gs_nil, gs_cons, k_gs, s_asg, k_asg1, k_nx, s_expr, k_expr, s_ret, k_ret, s_iff, k_if, s_for, k_for, s_aug, s_pass, ss_nil, ss_cons, k_ss, bind_ok, bind_exc, bind_stuck, go_ok, go_exc, seq_nx, seq_rt, seq_exc, turn_nx, turn_rt, turn_exc, calm_ok', end_d, end_nx, end_exc, tru_bl, give, give_b, ders, der, arrD, List.getElem?_cons_zero, List.getElem?_cons_succ, List.set_cons_zero, List.set_cons_succ, if_true, if_false, Bool.false_eq_true, Bool.not_true, Bool.not_false, List.take_length,
      e_isi, k_isi, e_tin, k_tinP, k_tinN, e_tget, k_tget, g_star, i_zip, is_int_non, is_int_bl, is_int_int, is_int_str, is_int_tup, is_int_lst, is_int_dct, is_str_non, is_str_bl, is_str_int, is_str_str, is_str_tup, is_str_lst, is_str_dct, is_bool_non, is_bool_bl, is_bool_int, is_bool_str, is_bool_tup, is_bool_lst, is_bool_dct, is_tuple_non, is_tuple_bl, is_tuple_int, is_tuple_str, is_tuple_tup, is_tuple_lst, is_tuple_dct, is_list_non, is_list_bl, is_list_int, is_list_str, is_list_tup, is_list_lst, is_list_dct, is_dict_non, is_dict_bl, is_dict_int, is_dict_str, is_dict_tup, is_dict_lst, is_dict_dct,
      bfD, len_s, len_l, len_t, c_eq_ii, c_ne_ii, c_lt_ii, c_le_ii, c_gt_ii, c_ge_ii, c_is_non, c_isn_non, noneD, Int.cast_ofNat_Int, Int.reduceEq, Int.reduceLT, Int.reduceLE, decide_true, decide_false, kTup, kLst, pures, sizeLine_eq, Nat.reduceLeDiff, g_tupq, idx_q0, idx_q1, is_tuple_q, len_q, k_ivq, Bool.true_and, Bool.and_true, Bool.false_and, Bool.and_false, ni_bring]
          · have hd : decide ((ys.length : Int) = 3) = false := by rw [decide_eq_false_iff_not]; omega
            simp only [List.map_cons, List.map_nil, List.length_cons, List.length_nil, List.replicate, List.cons_append, List.nil_append, List.append_nil, Nat.reduceAdd, Nat.reduceSub, Nat.zero_add,
      e_var, e_con, e_bin, k_bin1, k_bin2, e_neg, k_neg, e_not, k_not, e_and, k_and, e_or, k_or, e_cmp, k_cmp1, k_cmp2, e_chain, k_ch1, k_ch2, e_ite, k_ite, e_call, k_call1, k_call2, e_blt, k_blt, e_meth, k_meth1, k_meth2, e_tup, e_lst, e_dct0, e_dcd, e_idx, k_idx1, k_idx2, e_slc, k_slc1, k_slc2, k_slc3, o_none, o_some, k_o, e_new, k_new, e_lc, k_lc, lc_g, es_nil, es_cons, k_es1, k_es2, t_nil, t_cons, k_t, i_val, i_range, i_enum, k_ent, k_enl, enumD, s_par, k_par, setAll, k_body, k_turn, k_ivl, k_ivt, k_ivs,
      g_name, g_tup, g_sub, k_sub1, gs_nil, gs_cons, k_gs, s_asg, k_asg1, k_nx, s_expr, k_expr, s_ret, k_ret, s_iff, k_if, s_for, k_for, s_aug, s_pass, ss_nil, ss_cons, k_ss, bind_ok, bind_exc, bind_stuck, go_ok, go_exc, seq_nx, seq_rt, seq_exc, turn_nx, turn_rt, turn_exc, calm_ok', end_d, end_nx, end_exc, tru_bl, give, give_b, ders, der, arrD, List.getElem?_cons_zero, List.getElem?_cons_succ, List.set_cons_zero, List.set_cons_succ, if_true, if_false, Bool.false_eq_true, Bool.not_true, Bool.not_false, List.take_length,
      e_isi, k_isi, e_tin, k_tinP, k_tinN, e_tget, k_tget, g_star, i_zip, is_int_non, is_int_bl, is_int_int, is_int_str, is_int_tup, is_int_lst, is_int_dct, is_str_non, is_str_bl, is_str_int, is_str_str, is_str_tup, is_str_lst, is_str_dct, is_bool_non, is_bool_bl, is_bool_int, is_bool_str, is_bool_tup, is_bool_lst, is_bool_dct, is_tuple_non, is_tuple_bl, is_tuple_int, is_tuple_str, is_tuple_tup, is_tuple_lst, is_tuple_dct, is_list_non, is_list_bl, is_list_int, is_list_str, is_list_tup, is_list_lst, is_list_dct, is_dict_non, is_dict_bl, is_dict_int, is_dict_str, is_dict_tup, is_dict_lst, is_dict_dct,
      bfD, len_s, len_l, len_t, c_eq_ii, c_ne_ii, c_lt_ii, c_le_ii, c_gt_ii, c_ge_ii, c_is_non, c_isn_non, noneD, Int.cast_ofNat_Int, Int.reduceEq, Int.reduceLT, Int.reduceLE, decide_true, decide_false, kTup, kLst, pures, sizeLine_eq, Nat.reduceLeDiff, g_tupq, idx_q0, idx_q1, is_tuple_q, len_q, k_ivq, ix0, lk_bring, Option.isSome_some, star_t, hd]
            rcases ys with _ | ⟨a, _ | ⟨b, _ | ⟨c, _ | ⟨d, _ | ⟨e, r⟩⟩⟩⟩⟩ <;> first | rfl | exact absurd rfl hn
        by_cases w2 : w = giveS
        · have hw : w = ⟨#[103, 105, 118, 101]⟩ := w2
          subst hw
          clear w0 w1 w2
          by_cases hn : ys.length = 3
          · obtain ⟨a, b, c, rfl⟩ : ∃ a b c, ys = [a, b, c] := by
              match ys, hn with
              | [a, b, c], _ => exact ⟨_, _, _, rfl⟩
            have hl := fits_lc T L k (st := st) [(a, ⟨#[110, 97, 109, 101]⟩), (b, ⟨#[110, 97, 109, 101]⟩), (c, ⟨#[109, 101, 97, 115, 117, 114, 101, 115]⟩)] (some (.d (.tup (.str ⟨#[103, 105, 118, 101]⟩ :: [a, b, c])))) (some (.d (.str ⟨#[103, 105, 118, 101]⟩))) (some (.d (.lst [a, b, c])))
            simp only [List.map_cons, List.map_nil, fit_m, fit_n] at hl
            simp only [List.map_cons, List.map_nil, List.length_cons, List.length_nil, List.replicate, List.cons_append, List.nil_append, List.append_nil, Nat.reduceAdd, Nat.reduceSub, Nat.zero_add,
      e_var, e_con, e_bin, k_bin1, k_bin2, e_neg, k_neg, e_not, k_not, e_and, k_and, e_or, k_or, e_cmp, k_cmp1, k_cmp2, e_chain, k_ch1, k_ch2, e_ite, k_ite, e_call, k_call1, k_call2, e_blt, k_blt, e_meth, k_meth1, k_meth2, e_tup, e_lst, e_dct0, e_dcd, e_idx, k_idx1, k_idx2, e_slc, k_slc1, k_slc2, k_slc3, o_none, o_some, k_o, e_new, k_new, e_lc, k_lc, lc_g, es_nil, es_cons, k_es1, k_es2, t_nil, t_cons, k_t, i_val, i_range, i_enum, k_ent, k_enl, enumD, s_par, k_par, setAll, k_body, k_turn, k_ivl, k_ivt, k_ivs,
      g_name, g_tup, g_sub, k_sub1, gs_nil, gs_cons, k_gs, s_asg, k_asg1, k_nx, s_expr, k_expr, s_ret, k_ret, s_iff, k_if, s_for, k_for, s_aug, s_pass, ss_nil, ss_cons, k_ss, bind_ok, bind_exc, bind_stuck, go_ok, go_exc, seq_nx, seq_rt, seq_exc, turn_nx, turn_rt, turn_exc, calm_ok', end_d, end_nx, end_exc, tru_bl, give, give_b, ders, der, arrD, List.getElem?_cons_zero, List.getElem?_cons_succ, List.set_cons_zero, List.set_cons_succ, if_true, if_false, Bool.false_eq_true, Bool.not_true, Bool.not_false, List.take_length,
      e_isi, k_isi, e_tin, k_tinP, k_tinN, e_tget, k_tget, g_star, i_zip, is_int_non, is_int_bl, is_int_int, is_int_str, is_int_tup, is_int_lst, is_int_dct, is_str_non, is_str_bl, is_str_int, is_str_str, is_str_tup, is_str_lst, is_str_dct, is_bool_non, is_bool_bl, is_bool_int, is_bool_str, is_bool_tup, is_bool_lst, is_bool_dct, is_tuple_non, is_tuple_bl, is_tuple_int, is_tuple_str, is_tuple_tup, is_tuple_lst, is_tuple_dct, is_list_non, is_list_bl, is_list_int, is_list_str, is_list_tup, is_list_lst, is_list_dct, is_dict_non, is_dict_bl, is_dict_int, is_dict_str, is_dict_tup, is_dict_lst, is_dict_dct,
      bfD, len_s, len_l, len_t, c_eq_ii, c_ne_ii, c_lt_ii, c_le_ii, c_gt_ii, c_ge_ii, c_is_non, c_isn_non, noneD, Int.cast_ofNat_Int, Int.reduceEq, Int.reduceLT, Int.reduceLE, decide_true, decide_false, kTup, kLst, pures, sizeLine_eq, Nat.reduceLeDiff, g_tupq, idx_q0, idx_q1, is_tuple_q, len_q, k_ivq, ix0, lk_give, Option.isSome_some, star_t, zip_lt, zipD, wipeE, hl, allD, bools, List.all_cons, List.all_nil, id, dd_give]
            cases g0 : nameD a <;> simp only [List.map_cons, List.map_nil, List.length_cons, List.length_nil, List.replicate, List.cons_append, List.nil_append, List.append_nil, Nat.reduceAdd, Nat.reduceSub, Nat.zero_add,
      e_var, e_con, e_bin, k_bin1, k_bin2, e_neg, k_neg, e_not, k_not, e_and, k_and, e_or, k_or, e_cmp, k_cmp1, k_cmp2, e_chain, k_ch1, k_ch2, e_ite, k_ite, e_call, k_call1, k_call2, e_blt, k_blt, e_meth, k_meth1, k_meth2, e_tup, e_lst, e_dct0, e_dcd, e_idx, k_idx1, k_idx2, e_slc, k_slc1, k_slc2, k_slc3, o_none, o_some, k_o, e_new, k_new, e_lc, k_lc, lc_g, es_nil, es_cons, k_es1, k_es2, t_nil, t_cons, k_t, i_val, i_range, i_enum, k_ent, k_enl, enumD, s_par, k_par, setAll, k_body, k_turn, k_ivl, k_ivt, k_ivs,
      g_name, g_tup, g_sub, k_sub1, gs_nil, gs_cons, k_gs, s_asg, k_asg1, k_nx, s_expr, k_expr, s_ret, k_ret, s_iff, k_if, s_for, k_for, s_aug, s_pass, ss_nil, ss_cons, k_ss, bind_ok, bind_exc, bind_stuck, go_ok, go_exc, seq_nx, seq_rt, seq_exc, turn_nx, turn_rt, turn_exc, calm_ok', end_d, end_nx, end_exc, tru_bl, give, give_b, ders, der, arrD, List.getElem?_cons_zero, List.getElem?_cons_succ, List.set_cons_zero, List.set_cons_succ, if_true, if_false, Bool.false_eq_true, Bool.not_true, Bool.not_false, List.take_length,
      e_isi, k_isi, e_tin, k_tinP, k_tinN, e_tget, k_tget, g_star, i_zip, is_int_non, is_int_bl, is_int_int, is_int_str, is_int_tup, is_int_lst, is_int_dct, is_str_non, is_str_bl, is_str_int, is_str_str, is_str_tup, is_str_lst, is_str_dct, is_bool_non, is_bool_bl, is_bool_int, is_bool_str, is_bool_tup, is_bool_lst, is_bool_dct, is_tuple_non, is_tuple_bl, is_tuple_int, is_tuple_str, is_tuple_tup, is_tuple_lst, is_tuple_dct, is_list_non, is_list_bl, is_list_int, is_list_str, is_list_tup, is_list_lst, is_list_dct, is_dict_non, is_dict_bl, is_dict_int, is_dict_str, is_dict_tup, is_dict_lst, is_dict_dct,
      bfD, len_s, len_l, len_t, c_eq_ii, c_ne_ii, c_lt_ii, c_le_ii, c_gt_ii, c_ge_ii, c_is_non, c_isn_non, noneD, Int.cast_ofNat_Int, Int.reduceEq, Int.reduceLT, Int.reduceLE, decide_true, decide_false, kTup, kLst, pures, sizeLine_eq, Nat.reduceLeDiff, g_tupq, idx_q0, idx_q1, is_tuple_q, len_q, k_ivq, Bool.true_and, Bool.and_true, Bool.false_and, Bool.and_false, ni_give]
            cases g1 : nameD b <;> simp only [List.map_cons, List.map_nil, List.length_cons, List.length_nil, List.replicate, List.cons_append, List.nil_append, List.append_nil, Nat.reduceAdd, Nat.reduceSub, Nat.zero_add,
      e_var, e_con, e_bin, k_bin1, k_bin2, e_neg, k_neg, e_not, k_not, e_and, k_and, e_or, k_or, e_cmp, k_cmp1, k_cmp2, e_chain, k_ch1, k_ch2, e_ite, k_ite, e_call, k_call1, k_call2, e_blt, k_blt, e_meth, k_meth1, k_meth2, e_tup, e_lst, e_dct0, e_dcd, e_idx, k_idx1, k_idx2, e_slc, k_slc1, k_slc2, k_slc3, o_none, o_some, k_o, e_new, k_new, e_lc, k_lc, lc_g, es_nil, es_cons, k_es1, k_es2, t_nil, t_cons, k_t, i_val, i_range, i_enum, k_ent, k_enl, enumD, s_par, k_par, setAll, k_body, k_turn, k_ivl, k_ivt, k_ivs,
      g_name, g_tup, g_sub, k_sub1, gs_nil, gs_cons, k_gs, s_asg, k_asg1, k_nx, s_expr, k_expr, s_ret, k_ret, s_iff, k_if, s_for, k_for, s_aug, s_pass, ss_nil, ss_cons, k_ss, bind_ok, bind_exc, bind_stuck, go_ok, go_exc, seq_nx, seq_rt, seq_exc, turn_nx, turn_rt, turn_exc, calm_ok', end_d, end_nx, end_exc, tru_bl, give, give_b, ders, der, arrD, List.getElem?_cons_zero, List.getElem?_cons_succ, List.set_cons_zero, List.set_cons_succ, if_true, if_false, Bool.false_eq_true, Bool.not_true, Bool.not_false, List.take_length,
      e_isi, k_isi, e_tin, k_tinP, k_tinN, e_tget, k_tget, g_star, i_zip, is_int_non, is_int_bl, is_int_int, is_int_str, is_int_tup, is_int_lst, is_int_dct, is_str_non, is_str_bl, is_str_int, is_str_str, is_str_tup, is_str_lst, is_str_dct, is_bool_non, is_bool_bl, is_bool_int, is_bool_str, is_bool_tup, is_bool_lst, is_bool_dct, is_tuple_non, is_tuple_bl, is_tuple_int, is_tuple_str, is_tuple_tup, is_tuple_lst, is_tuple_dct, is_list_non, is_list_bl, is_list_int, is_list_str, is_list_tup, is_list_lst, is_list_dct, is_dict_non, is_dict_bl, is_dict_int, is_dict_str, is_dict_tup, is_dict_lst, is_dict_dct,
      bfD, len_s, len_l, len_t, c_eq_ii, c_ne_ii, c_lt_ii, c_le_ii, c_gt_ii, c_ge_ii, c_is_non, c_isn_non, noneD, Int.cast_ofNat_Int, Int.reduceEq, Int.reduceLT, Int.reduceLE, decide_true, decide_false, kTup, kLst, pures, sizeLine_eq, Nat.reduceLeDiff, g_tupq, idx_q0, idx_q1, is_tuple_q, len_q, k_ivq, Bool.true_and, Bool.and_true, Bool.false_and, Bool.and_false, ni_give]
            cases g2 : wholeD c 1 9999 <;> simp only [List.map_cons, List.map_nil, List.length_cons, List.length_nil, List.replicate, List.cons_append, List.nil_append, List.append_nil, Nat.reduceAdd, Nat.reduceSub, Nat.zero_add,
      e_var, e_con, e_bin, k_bin1, k_bin2, e_neg, k_neg, e_not, k_not, e_and, k_and, e_or, k_or, e_cmp, k_cmp1, k_cmp2, e_chain, k_ch1, k_ch2, e_ite, k_ite, e_call, k_call1, k_call2, e_blt, k_blt, e_meth, k_meth1, k_meth2, e_tup, e_lst, e_dct0, e_dcd, e_idx, k_idx1, k_idx2, e_slc, k_slc1, k_slc2, k_slc3, o_none, o_some, k_o, e_new, k_new, e_lc, k_lc, lc_g, es_nil, es_cons, k_es1, k_es2, t_nil, t_cons, k_t, i_val, i_range, i_enum, k_ent, k_enl, enumD, s_par, k_par, setAll, k_body, k_turn, k_ivl, k_ivt, k_ivs,
      g_name, g_tup, g_sub, k_sub1, gs_nil, gs_cons, k_gs, s_asg, k_asg1, k_nx, s_expr, k_expr, s_ret, k_ret, s_iff, k_if, s_for, k_for, s_aug, s_pass, ss_nil, ss_cons, k_ss, bind_ok, bind_exc, bind_stuck, go_ok, go_exc, seq_nx, seq_rt, seq_exc, turn_nx, turn_rt, turn_exc, calm_ok', end_d, end_nx, end_exc, tru_bl, give, give_b, ders, der, arrD, List.getElem?_cons_zero, List.getElem?_cons_succ, List.set_cons_zero, List.set_cons_succ, if_true, if_false, Bool.false_eq_true, Bool.not_true, Bool.not_false, List.take_length,
      e_isi, k_isi, e_tin, k_tinP, k_tinN, e_tget, k_tget, g_star, i_zip, is_int_non, is_int_bl, is_int_int, is_int_str, is_int_tup, is_int_lst, is_int_dct, is_str_non, is_str_bl, is_str_int, is_str_str, is_str_tup, is_str_lst, is_str_dct, is_bool_non, is_bool_bl, is_bool_int, is_bool_str, is_bool_tup, is_bool_lst, is_bool_dct, is_tuple_non, is_tuple_bl, is_tuple_int, is_tuple_str, is_tuple_tup, is_tuple_lst, is_tuple_dct, is_list_non, is_list_bl, is_list_int, is_list_str, is_list_tup, is_list_lst, is_list_dct, is_dict_non, is_dict_bl, is_dict_int, is_dict_str, is_dict_tup, is_dict_lst, is_dict_dct,
      bfD, len_s, len_l, len_t, c_eq_ii, c_ne_ii, c_lt_ii, c_le_ii, c_gt_ii, c_ge_ii, c_is_non, c_isn_non, noneD, Int.cast_ofNat_Int, Int.reduceEq, Int.reduceLT, Int.reduceLE, decide_true, decide_false, kTup, kLst, pures, sizeLine_eq, Nat.reduceLeDiff, g_tupq, idx_q0, idx_q1, is_tuple_q, len_q, k_ivq, Bool.true_and, Bool.and_true, Bool.false_and, Bool.and_false, ni_give]
            obtain ⟨sa, rfl⟩ := name_str g0
            obtain ⟨sb, rfl⟩ := name_str g1
            simp only [il0, il1, c_ne_ss, nd_ss, List.map_cons, List.map_nil, List.length_cons, List.length_nil, List.replicate, List.cons_append, List.nil_append, List.append_nil, Nat.reduceAdd, Nat.reduceSub, Nat.zero_add,
      e_var, e_con, e_bin, k_bin1, k_bin2, e_neg, k_neg, e_not, k_not, e_and, k_and, e_or, k_or, e_cmp, k_cmp1, k_cmp2, e_chain, k_ch1, k_ch2, e_ite, k_ite, e_call, k_call1, k_call2, e_blt, k_blt, e_meth, k_meth1, k_meth2, e_tup, e_lst, e_dct0, e_dcd, e_idx, k_idx1, k_idx2, e_slc, k_slc1, k_slc2, k_slc3, o_none, o_some, k_o, e_new, k_new, e_lc, k_lc, lc_g, es_nil, es_cons, k_es1, k_es2, t_nil, t_cons, k_t, i_val, i_range, i_enum, k_ent, k_enl, enumD, s_par, k_par, setAll, k_body, k_turn, k_ivl, k_ivt, k_ivs,
      g_name, g_tup, g_sub, k_sub1, gs_nil, gs_cons, k_gs, s_asg, k_asg1, k_nx, s_expr, k_expr, s_ret, k_ret, s_iff, k_if, s_for, k_for, s_aug, s_pass, ss_nil, ss_cons, k_ss, bind_ok, bind_exc, bind_stuck, go_ok, go_exc, seq_nx, seq_rt, seq_exc, turn_nx, turn_rt, turn_exc, calm_ok', end_d, end_nx, end_exc, tru_bl, give, give_b, ders, der, arrD, List.getElem?_cons_zero, List.getElem?_cons_succ, List.set_cons_zero, List.set_cons_succ, if_true, if_false, Bool.false_eq_true, Bool.not_true, Bool.not_false, List.take_length,
      e_isi, k_isi, e_tin, k_tinP, k_tinN, e_tget, k_tget, g_star, i_zip, is_int_non, is_int_bl, is_int_int, is_int_str, is_int_tup, is_int_lst, is_int_dct, is_str_non, is_str_bl, is_str_int, is_str_str, is_str_tup, is_str_lst, is_str_dct, is_bool_non, is_bool_bl, is_bool_int, is_bool_str, is_bool_tup, is_bool_lst, is_bool_dct, is_tuple_non, is_tuple_bl, is_tuple_int, is_tuple_str, is_tuple_tup, is_tuple_lst, is_tuple_dct, is_list_non, is_list_bl, is_list_int, is_list_str, is_list_tup, is_list_lst, is_list_dct, is_dict_non, is_dict_bl, is_dict_int, is_dict_str, is_dict_tup, is_dict_lst, is_dict_dct,
      bfD, len_s, len_l, len_t, c_eq_ii, c_ne_ii, c_lt_ii, c_le_ii, c_gt_ii, c_ge_ii, c_is_non, c_isn_non, noneD, Int.cast_ofNat_Int, Int.reduceEq, Int.reduceLT, Int.reduceLE, decide_true, decide_false, kTup, kLst, pures, sizeLine_eq, Nat.reduceLeDiff, g_tupq, idx_q0, idx_q1, is_tuple_q, len_q, k_ivq]
          · have hd : decide ((ys.length : Int) = 3) = false := by rw [decide_eq_false_iff_not]; omega
            simp only [List.map_cons, List.map_nil, List.length_cons, List.length_nil, List.replicate, List.cons_append, List.nil_append, List.append_nil, Nat.reduceAdd, Nat.reduceSub, Nat.zero_add,
      e_var, e_con, e_bin, k_bin1, k_bin2, e_neg, k_neg, e_not, k_not, e_and, k_and, e_or, k_or, e_cmp, k_cmp1, k_cmp2, e_chain, k_ch1, k_ch2, e_ite, k_ite, e_call, k_call1, k_call2, e_blt, k_blt, e_meth, k_meth1, k_meth2, e_tup, e_lst, e_dct0, e_dcd, e_idx, k_idx1, k_idx2, e_slc, k_slc1, k_slc2, k_slc3, o_none, o_some, k_o, e_new, k_new, e_lc, k_lc, lc_g, es_nil, es_cons, k_es1, k_es2, t_nil, t_cons, k_t, i_val, i_range, i_enum, k_ent, k_enl, enumD, s_par, k_par, setAll, k_body, k_turn, k_ivl, k_ivt, k_ivs,
      g_name, g_tup, g_sub, k_sub1, gs_nil, gs_cons, k_gs, s_asg, k_asg1, k_nx, s_expr, k_expr, s_ret, k_ret, s_iff, k_if, s_for, k_for, s_aug, s_pass, ss_nil, ss_cons, k_ss, bind_ok, bind_exc, bind_stuck, go_ok, go_exc, seq_nx, seq_rt, seq_exc, turn_nx, turn_rt, turn_exc, calm_ok', end_d, end_nx, end_exc, tru_bl, give, give_b, ders, der, arrD, List.getElem?_cons_zero, List.getElem?_cons_succ, List.set_cons_zero, List.set_cons_succ, if_true, if_false, Bool.false_eq_true, Bool.not_true, Bool.not_false, List.take_length,
      e_isi, k_isi, e_tin, k_tinP, k_tinN, e_tget, k_tget, g_star, i_zip, is_int_non, is_int_bl, is_int_int, is_int_str, is_int_tup, is_int_lst, is_int_dct, is_str_non, is_str_bl, is_str_int, is_str_str, is_str_tup, is_str_lst, is_str_dct, is_bool_non, is_bool_bl, is_bool_int, is_bool_str, is_bool_tup, is_bool_lst, is_bool_dct, is_tuple_non, is_tuple_bl, is_tuple_int, is_tuple_str, is_tuple_tup, is_tuple_lst, is_tuple_dct, is_list_non, is_list_bl, is_list_int, is_list_str, is_list_tup, is_list_lst, is_list_dct, is_dict_non, is_dict_bl, is_dict_int, is_dict_str, is_dict_tup, is_dict_lst, is_dict_dct,
      bfD, len_s, len_l, len_t, c_eq_ii, c_ne_ii, c_lt_ii, c_le_ii, c_gt_ii, c_ge_ii, c_is_non, c_isn_non, noneD, Int.cast_ofNat_Int, Int.reduceEq, Int.reduceLT, Int.reduceLE, decide_true, decide_false, kTup, kLst, pures, sizeLine_eq, Nat.reduceLeDiff, g_tupq, idx_q0, idx_q1, is_tuple_q, len_q, k_ivq, ix0, lk_give, Option.isSome_some, star_t, hd]
            rcases ys with _ | ⟨a, _ | ⟨b, _ | ⟨c, _ | ⟨d, _ | ⟨e, r⟩⟩⟩⟩⟩ <;> first | rfl | exact absurd rfl hn
        by_cases w3 : w = handS
        · have hw : w = ⟨#[104, 97, 110, 100]⟩ := w3
          subst hw
          clear w0 w1 w2 w3
          by_cases hn : ys.length = 4
          · obtain ⟨a, b, c, d, rfl⟩ : ∃ a b c d, ys = [a, b, c, d] := by
              match ys, hn with
              | [a, b, c, d], _ => exact ⟨_, _, _, _, rfl⟩
            have hl := fits_lc T L k (st := st) [(a, ⟨#[110, 97, 109, 101]⟩), (b, ⟨#[110, 97, 109, 101]⟩), (c, ⟨#[110, 97, 109, 101]⟩), (d, ⟨#[109, 101, 97, 115, 117, 114, 101, 115]⟩)] (some (.d (.tup (.str ⟨#[104, 97, 110, 100]⟩ :: [a, b, c, d])))) (some (.d (.str ⟨#[104, 97, 110, 100]⟩))) (some (.d (.lst [a, b, c, d])))
            simp only [List.map_cons, List.map_nil, fit_m, fit_n] at hl
            simp only [List.map_cons, List.map_nil, List.length_cons, List.length_nil, List.replicate, List.cons_append, List.nil_append, List.append_nil, Nat.reduceAdd, Nat.reduceSub, Nat.zero_add,
      e_var, e_con, e_bin, k_bin1, k_bin2, e_neg, k_neg, e_not, k_not, e_and, k_and, e_or, k_or, e_cmp, k_cmp1, k_cmp2, e_chain, k_ch1, k_ch2, e_ite, k_ite, e_call, k_call1, k_call2, e_blt, k_blt, e_meth, k_meth1, k_meth2, e_tup, e_lst, e_dct0, e_dcd, e_idx, k_idx1, k_idx2, e_slc, k_slc1, k_slc2, k_slc3, o_none, o_some, k_o, e_new, k_new, e_lc, k_lc, lc_g, es_nil, es_cons, k_es1, k_es2, t_nil, t_cons, k_t, i_val, i_range, i_enum, k_ent, k_enl, enumD, s_par, k_par, setAll, k_body, k_turn, k_ivl, k_ivt, k_ivs,
      g_name, g_tup, g_sub, k_sub1, gs_nil, gs_cons, k_gs, s_asg, k_asg1, k_nx, s_expr, k_expr, s_ret, k_ret, s_iff, k_if, s_for, k_for, s_aug, s_pass, ss_nil, ss_cons, k_ss, bind_ok, bind_exc, bind_stuck, go_ok, go_exc, seq_nx, seq_rt, seq_exc, turn_nx, turn_rt, turn_exc, calm_ok', end_d, end_nx, end_exc, tru_bl, give, give_b, ders, der, arrD, List.getElem?_cons_zero, List.getElem?_cons_succ, List.set_cons_zero, List.set_cons_succ, if_true, if_false, Bool.false_eq_true, Bool.not_true, Bool.not_false, List.take_length,
      e_isi, k_isi, e_tin, k_tinP, k_tinN, e_tget, k_tget, g_star, i_zip, is_int_non, is_int_bl, is_int_int, is_int_str, is_int_tup, is_int_lst, is_int_dct, is_str_non, is_str_bl, is_str_int, is_str_str, is_str_tup, is_str_lst, is_str_dct, is_bool_non, is_bool_bl, is_bool_int, is_bool_str, is_bool_tup, is_bool_lst, is_bool_dct, is_tuple_non, is_tuple_bl, is_tuple_int, is_tuple_str, is_tuple_tup, is_tuple_lst, is_tuple_dct, is_list_non, is_list_bl, is_list_int, is_list_str, is_list_tup, is_list_lst, is_list_dct, is_dict_non, is_dict_bl, is_dict_int, is_dict_str, is_dict_tup, is_dict_lst, is_dict_dct,
      bfD, len_s, len_l, len_t, c_eq_ii, c_ne_ii, c_lt_ii, c_le_ii, c_gt_ii, c_ge_ii, c_is_non, c_isn_non, noneD, Int.cast_ofNat_Int, Int.reduceEq, Int.reduceLT, Int.reduceLE, decide_true, decide_false, kTup, kLst, pures, sizeLine_eq, Nat.reduceLeDiff, g_tupq, idx_q0, idx_q1, is_tuple_q, len_q, k_ivq, ix0, lk_hand, Option.isSome_some, star_t, zip_lt, zipD, wipeE, hl, allD, bools, List.all_cons, List.all_nil, id, dd_hand]
            cases g0 : nameD a <;> simp only [List.map_cons, List.map_nil, List.length_cons, List.length_nil, List.replicate, List.cons_append, List.nil_append, List.append_nil, Nat.reduceAdd, Nat.reduceSub, Nat.zero_add,
      e_var, e_con, e_bin, k_bin1, k_bin2, e_neg, k_neg, e_not, k_not, e_and, k_and, e_or, k_or, e_cmp, k_cmp1, k_cmp2, e_chain, k_ch1, k_ch2, e_ite, k_ite, e_call, k_call1, k_call2, e_blt, k_blt, e_meth, k_meth1, k_meth2, e_tup, e_lst, e_dct0, e_dcd, e_idx, k_idx1, k_idx2, e_slc, k_slc1, k_slc2, k_slc3, o_none, o_some, k_o, e_new, k_new, e_lc, k_lc, lc_g, es_nil, es_cons, k_es1, k_es2, t_nil, t_cons, k_t, i_val, i_range, i_enum, k_ent, k_enl, enumD, s_par, k_par, setAll, k_body, k_turn, k_ivl, k_ivt, k_ivs,
      g_name, g_tup, g_sub, k_sub1, gs_nil, gs_cons, k_gs, s_asg, k_asg1, k_nx, s_expr, k_expr, s_ret, k_ret, s_iff, k_if, s_for, k_for, s_aug, s_pass, ss_nil, ss_cons, k_ss, bind_ok, bind_exc, bind_stuck, go_ok, go_exc, seq_nx, seq_rt, seq_exc, turn_nx, turn_rt, turn_exc, calm_ok', end_d, end_nx, end_exc, tru_bl, give, give_b, ders, der, arrD, List.getElem?_cons_zero, List.getElem?_cons_succ, List.set_cons_zero, List.set_cons_succ, if_true, if_false, Bool.false_eq_true, Bool.not_true, Bool.not_false, List.take_length,
      e_isi, k_isi, e_tin, k_tinP, k_tinN, e_tget, k_tget, g_star, i_zip, is_int_non, is_int_bl, is_int_int, is_int_str, is_int_tup, is_int_lst, is_int_dct, is_str_non, is_str_bl, is_str_int, is_str_str, is_str_tup, is_str_lst, is_str_dct, is_bool_non, is_bool_bl, is_bool_int, is_bool_str, is_bool_tup, is_bool_lst, is_bool_dct, is_tuple_non, is_tuple_bl, is_tuple_int, is_tuple_str, is_tuple_tup, is_tuple_lst, is_tuple_dct, is_list_non, is_list_bl, is_list_int, is_list_str, is_list_tup, is_list_lst, is_list_dct, is_dict_non, is_dict_bl, is_dict_int, is_dict_str, is_dict_tup, is_dict_lst, is_dict_dct,
      bfD, len_s, len_l, len_t, c_eq_ii, c_ne_ii, c_lt_ii, c_le_ii, c_gt_ii, c_ge_ii, c_is_non, c_isn_non, noneD, Int.cast_ofNat_Int, Int.reduceEq, Int.reduceLT, Int.reduceLE, decide_true, decide_false, kTup, kLst, pures, sizeLine_eq, Nat.reduceLeDiff, g_tupq, idx_q0, idx_q1, is_tuple_q, len_q, k_ivq, Bool.true_and, Bool.and_true, Bool.false_and, Bool.and_false, ni_hand]
            cases g1 : nameD b <;> simp only [List.map_cons, List.map_nil, List.length_cons, List.length_nil, List.replicate, List.cons_append, List.nil_append, List.append_nil, Nat.reduceAdd, Nat.reduceSub, Nat.zero_add,
      e_var, e_con, e_bin, k_bin1, k_bin2, e_neg, k_neg, e_not, k_not, e_and, k_and, e_or, k_or, e_cmp, k_cmp1, k_cmp2, e_chain, k_ch1, k_ch2, e_ite, k_ite, e_call, k_call1, k_call2, e_blt, k_blt, e_meth, k_meth1, k_meth2, e_tup, e_lst, e_dct0, e_dcd, e_idx, k_idx1, k_idx2, e_slc, k_slc1, k_slc2, k_slc3, o_none, o_some, k_o, e_new, k_new, e_lc, k_lc, lc_g, es_nil, es_cons, k_es1, k_es2, t_nil, t_cons, k_t, i_val, i_range, i_enum, k_ent, k_enl, enumD, s_par, k_par, setAll, k_body, k_turn, k_ivl, k_ivt, k_ivs,
      g_name, g_tup, g_sub, k_sub1, gs_nil, gs_cons, k_gs, s_asg, k_asg1, k_nx, s_expr, k_expr, s_ret, k_ret, s_iff, k_if, s_for, k_for, s_aug, s_pass, ss_nil, ss_cons, k_ss, bind_ok, bind_exc, bind_stuck, go_ok, go_exc, seq_nx, seq_rt, seq_exc, turn_nx, turn_rt, turn_exc, calm_ok', end_d, end_nx, end_exc, tru_bl, give, give_b, ders, der, arrD, List.getElem?_cons_zero, List.getElem?_cons_succ, List.set_cons_zero, List.set_cons_succ, if_true, if_false, Bool.false_eq_true, Bool.not_true, Bool.not_false, List.take_length,
      e_isi, k_isi, e_tin, k_tinP, k_tinN, e_tget, k_tget, g_star, i_zip, is_int_non, is_int_bl, is_int_int, is_int_str, is_int_tup, is_int_lst, is_int_dct, is_str_non, is_str_bl, is_str_int, is_str_str, is_str_tup, is_str_lst, is_str_dct, is_bool_non, is_bool_bl, is_bool_int, is_bool_str, is_bool_tup, is_bool_lst, is_bool_dct, is_tuple_non, is_tuple_bl, is_tuple_int, is_tuple_str, is_tuple_tup, is_tuple_lst, is_tuple_dct, is_list_non, is_list_bl, is_list_int, is_list_str, is_list_tup, is_list_lst, is_list_dct, is_dict_non, is_dict_bl, is_dict_int, is_dict_str, is_dict_tup, is_dict_lst, is_dict_dct,
      bfD, len_s, len_l, len_t, c_eq_ii, c_ne_ii, c_lt_ii, c_le_ii, c_gt_ii, c_ge_ii, c_is_non, c_isn_non, noneD, Int.cast_ofNat_Int, Int.reduceEq, Int.reduceLT, Int.reduceLE, decide_true, decide_false, kTup, kLst, pures, sizeLine_eq, Nat.reduceLeDiff, g_tupq, idx_q0, idx_q1, is_tuple_q, len_q, k_ivq, Bool.true_and, Bool.and_true, Bool.false_and, Bool.and_false, ni_hand]
            cases g2 : nameD c <;> simp only [List.map_cons, List.map_nil, List.length_cons, List.length_nil, List.replicate, List.cons_append, List.nil_append, List.append_nil, Nat.reduceAdd, Nat.reduceSub, Nat.zero_add,
      e_var, e_con, e_bin, k_bin1, k_bin2, e_neg, k_neg, e_not, k_not, e_and, k_and, e_or, k_or, e_cmp, k_cmp1, k_cmp2, e_chain, k_ch1, k_ch2, e_ite, k_ite, e_call, k_call1, k_call2, e_blt, k_blt, e_meth, k_meth1, k_meth2, e_tup, e_lst, e_dct0, e_dcd, e_idx, k_idx1, k_idx2, e_slc, k_slc1, k_slc2, k_slc3, o_none, o_some, k_o, e_new, k_new, e_lc, k_lc, lc_g, es_nil, es_cons, k_es1, k_es2, t_nil, t_cons, k_t, i_val, i_range, i_enum, k_ent, k_enl, enumD, s_par, k_par, setAll, k_body, k_turn, k_ivl, k_ivt, k_ivs,
      g_name, g_tup, g_sub, k_sub1, gs_nil, gs_cons, k_gs, s_asg, k_asg1, k_nx, s_expr, k_expr, s_ret, k_ret, s_iff, k_if, s_for, k_for, s_aug, s_pass, ss_nil, ss_cons, k_ss, bind_ok, bind_exc, bind_stuck, go_ok, go_exc, seq_nx, seq_rt, seq_exc, turn_nx, turn_rt, turn_exc, calm_ok', end_d, end_nx, end_exc, tru_bl, give, give_b, ders, der, arrD, List.getElem?_cons_zero, List.getElem?_cons_succ, List.set_cons_zero, List.set_cons_succ, if_true, if_false, Bool.false_eq_true, Bool.not_true, Bool.not_false, List.take_length,
      e_isi, k_isi, e_tin, k_tinP, k_tinN, e_tget, k_tget, g_star, i_zip, is_int_non, is_int_bl, is_int_int, is_int_str, is_int_tup, is_int_lst, is_int_dct, is_str_non, is_str_bl, is_str_int, is_str_str, is_str_tup, is_str_lst, is_str_dct, is_bool_non, is_bool_bl, is_bool_int, is_bool_str, is_bool_tup, is_bool_lst, is_bool_dct, is_tuple_non, is_tuple_bl, is_tuple_int, is_tuple_str, is_tuple_tup, is_tuple_lst, is_tuple_dct, is_list_non, is_list_bl, is_list_int, is_list_str, is_list_tup, is_list_lst, is_list_dct, is_dict_non, is_dict_bl, is_dict_int, is_dict_str, is_dict_tup, is_dict_lst, is_dict_dct,
      bfD, len_s, len_l, len_t, c_eq_ii, c_ne_ii, c_lt_ii, c_le_ii, c_gt_ii, c_ge_ii, c_is_non, c_isn_non, noneD, Int.cast_ofNat_Int, Int.reduceEq, Int.reduceLT, Int.reduceLE, decide_true, decide_false, kTup, kLst, pures, sizeLine_eq, Nat.reduceLeDiff, g_tupq, idx_q0, idx_q1, is_tuple_q, len_q, k_ivq, Bool.true_and, Bool.and_true, Bool.false_and, Bool.and_false, ni_hand]
            cases g3 : wholeD d 1 9999 <;> simp only [List.map_cons, List.map_nil, List.length_cons, List.length_nil, List.replicate, List.cons_append, List.nil_append, List.append_nil, Nat.reduceAdd, Nat.reduceSub, Nat.zero_add,
      e_var, e_con, e_bin, k_bin1, k_bin2, e_neg, k_neg, e_not, k_not, e_and, k_and, e_or, k_or, e_cmp, k_cmp1, k_cmp2, e_chain, k_ch1, k_ch2, e_ite, k_ite, e_call, k_call1, k_call2, e_blt, k_blt, e_meth, k_meth1, k_meth2, e_tup, e_lst, e_dct0, e_dcd, e_idx, k_idx1, k_idx2, e_slc, k_slc1, k_slc2, k_slc3, o_none, o_some, k_o, e_new, k_new, e_lc, k_lc, lc_g, es_nil, es_cons, k_es1, k_es2, t_nil, t_cons, k_t, i_val, i_range, i_enum, k_ent, k_enl, enumD, s_par, k_par, setAll, k_body, k_turn, k_ivl, k_ivt, k_ivs,
      g_name, g_tup, g_sub, k_sub1, gs_nil, gs_cons, k_gs, s_asg, k_asg1, k_nx, s_expr, k_expr, s_ret, k_ret, s_iff, k_if, s_for, k_for, s_aug, s_pass, ss_nil, ss_cons, k_ss, bind_ok, bind_exc, bind_stuck, go_ok, go_exc, seq_nx, seq_rt, seq_exc, turn_nx, turn_rt, turn_exc, calm_ok', end_d, end_nx, end_exc, tru_bl, give, give_b, ders, der, arrD, List.getElem?_cons_zero, List.getElem?_cons_succ, List.set_cons_zero, List.set_cons_succ, if_true, if_false, Bool.false_eq_true, Bool.not_true, Bool.not_false, List.take_length,
      e_isi, k_isi, e_tin, k_tinP, k_tinN, e_tget, k_tget, g_star, i_zip, is_int_non, is_int_bl, is_int_int, is_int_str, is_int_tup, is_int_lst, is_int_dct, is_str_non, is_str_bl, is_str_int, is_str_str, is_str_tup, is_str_lst, is_str_dct, is_bool_non, is_bool_bl, is_bool_int, is_bool_str, is_bool_tup, is_bool_lst, is_bool_dct, is_tuple_non, is_tuple_bl, is_tuple_int, is_tuple_str, is_tuple_tup, is_tuple_lst, is_tuple_dct, is_list_non, is_list_bl, is_list_int, is_list_str, is_list_tup, is_list_lst, is_list_dct, is_dict_non, is_dict_bl, is_dict_int, is_dict_str, is_dict_tup, is_dict_lst, is_dict_dct,
      bfD, len_s, len_l, len_t, c_eq_ii, c_ne_ii, c_lt_ii, c_le_ii, c_gt_ii, c_ge_ii, c_is_non, c_isn_non, noneD, Int.cast_ofNat_Int, Int.reduceEq, Int.reduceLT, Int.reduceLE, decide_true, decide_false, kTup, kLst, pures, sizeLine_eq, Nat.reduceLeDiff, g_tupq, idx_q0, idx_q1, is_tuple_q, len_q, k_ivq, Bool.true_and, Bool.and_true, Bool.false_and, Bool.and_false, ni_hand]
            obtain ⟨sa, rfl⟩ := name_str g0
            obtain ⟨sb, rfl⟩ := name_str g1
            simp only [il0, il1, c_ne_ss, nd_ss, List.map_cons, List.map_nil, List.length_cons, List.length_nil, List.replicate, List.cons_append, List.nil_append, List.append_nil, Nat.reduceAdd, Nat.reduceSub, Nat.zero_add,
      e_var, e_con, e_bin, k_bin1, k_bin2, e_neg, k_neg, e_not, k_not, e_and, k_and, e_or, k_or, e_cmp, k_cmp1, k_cmp2, e_chain, k_ch1, k_ch2, e_ite, k_ite, e_call, k_call1, k_call2, e_blt, k_blt, e_meth, k_meth1, k_meth2, e_tup, e_lst, e_dct0, e_dcd, e_idx, k_idx1, k_idx2, e_slc, k_slc1, k_slc2, k_slc3, o_none, o_some, k_o, e_new, k_new, e_lc, k_lc, lc_g, es_nil, es_cons, k_es1, k_es2, t_nil, t_cons, k_t, i_val, i_range, i_enum, k_ent, k_enl, enumD, s_par, k_par, setAll, k_body, k_turn, k_ivl, k_ivt, k_ivs,
      g_name, g_tup, g_sub, k_sub1, gs_nil, gs_cons, k_gs, s_asg, k_asg1, k_nx, s_expr, k_expr, s_ret, k_ret, s_iff, k_if, s_for, k_for, s_aug, s_pass, ss_nil, ss_cons, k_ss, bind_ok, bind_exc, bind_stuck, go_ok, go_exc, seq_nx, seq_rt, seq_exc, turn_nx, turn_rt, turn_exc, calm_ok', end_d, end_nx, end_exc, tru_bl, give, give_b, ders, der, arrD, List.getElem?_cons_zero, List.getElem?_cons_succ, List.set_cons_zero, List.set_cons_succ, if_true, if_false, Bool.false_eq_true, Bool.not_true, Bool.not_false, List.take_length,
      e_isi, k_isi, e_tin, k_tinP, k_tinN, e_tget, k_tget, g_star, i_zip, is_int_non, is_int_bl, is_int_int, is_int_str, is_int_tup, is_int_lst, is_int_dct, is_str_non, is_str_bl, is_str_int, is_str_str, is_str_tup, is_str_lst, is_str_dct, is_bool_non, is_bool_bl, is_bool_int, is_bool_str, is_bool_tup, is_bool_lst, is_bool_dct, is_tuple_non, is_tuple_bl, is_tuple_int, is_tuple_str, is_tuple_tup, is_tuple_lst, is_tuple_dct, is_list_non, is_list_bl, is_list_int, is_list_str, is_list_tup, is_list_lst, is_list_dct, is_dict_non, is_dict_bl, is_dict_int, is_dict_str, is_dict_tup, is_dict_lst, is_dict_dct,
      bfD, len_s, len_l, len_t, c_eq_ii, c_ne_ii, c_lt_ii, c_le_ii, c_gt_ii, c_ge_ii, c_is_non, c_isn_non, noneD, Int.cast_ofNat_Int, Int.reduceEq, Int.reduceLT, Int.reduceLE, decide_true, decide_false, kTup, kLst, pures, sizeLine_eq, Nat.reduceLeDiff, g_tupq, idx_q0, idx_q1, is_tuple_q, len_q, k_ivq]
          · have hd : decide ((ys.length : Int) = 4) = false := by rw [decide_eq_false_iff_not]; omega
            simp only [List.map_cons, List.map_nil, List.length_cons, List.length_nil, List.replicate, List.cons_append, List.nil_append, List.append_nil, Nat.reduceAdd, Nat.reduceSub, Nat.zero_add,
      e_var, e_con, e_bin, k_bin1, k_bin2, e_neg, k_neg, e_not, k_not, e_and, k_and, e_or, k_or, e_cmp, k_cmp1, k_cmp2, e_chain, k_ch1, k_ch2, e_ite, k_ite, e_call, k_call1, k_call2, e_blt, k_blt, e_meth, k_meth1, k_meth2, e_tup, e_lst, e_dct0, e_dcd, e_idx, k_idx1, k_idx2, e_slc, k_slc1, k_slc2, k_slc3, o_none, o_some, k_o, e_new, k_new, e_lc, k_lc, lc_g, es_nil, es_cons, k_es1, k_es2, t_nil, t_cons, k_t, i_val, i_range, i_enum, k_ent, k_enl, enumD, s_par, k_par, setAll, k_body, k_turn, k_ivl, k_ivt, k_ivs,
      g_name, g_tup, g_sub, k_sub1, gs_nil, gs_cons, k_gs, s_asg, k_asg1, k_nx, s_expr, k_expr, s_ret, k_ret, s_iff, k_if, s_for, k_for, s_aug, s_pass, ss_nil, ss_cons, k_ss, bind_ok, bind_exc, bind_stuck, go_ok, go_exc, seq_nx, seq_rt, seq_exc, turn_nx, turn_rt, turn_exc, calm_ok', end_d, end_nx, end_exc, tru_bl, give, give_b, ders, der, arrD, List.getElem?_cons_zero, List.getElem?_cons_succ, List.set_cons_zero, List.set_cons_succ, if_true, if_false, Bool.false_eq_true, Bool.not_true, Bool.not_false, List.take_length,
      e_isi, k_isi, e_tin, k_tinP, k_tinN, e_tget, k_tget, g_star, i_zip, is_int_non, is_int_bl, is_int_int, is_int_str, is_int_tup, is_int_lst, is_int_dct, is_str_non, is_str_bl, is_str_int, is_str_str, is_str_tup, is_str_lst, is_str_dct, is_bool_non, is_bool_bl, is_bool_int, is_bool_str, is_bool_tup, is_bool_lst, is_bool_dct, is_tuple_non, is_tuple_bl, is_tuple_int, is_tuple_str, is_tuple_tup, is_tuple_lst, is_tuple_dct, is_list_non, is_list_bl, is_list_int, is_list_str, is_list_tup, is_list_lst, is_list_dct, is_dict_non, is_dict_bl, is_dict_int, is_dict_str, is_dict_tup, is_dict_lst, is_dict_dct,
      bfD, len_s, len_l, len_t, c_eq_ii, c_ne_ii, c_lt_ii, c_le_ii, c_gt_ii, c_ge_ii, c_is_non, c_isn_non, noneD, Int.cast_ofNat_Int, Int.reduceEq, Int.reduceLT, Int.reduceLE, decide_true, decide_false, kTup, kLst, pures, sizeLine_eq, Nat.reduceLeDiff, g_tupq, idx_q0, idx_q1, is_tuple_q, len_q, k_ivq, ix0, lk_hand, Option.isSome_some, star_t, hd]
            rcases ys with _ | ⟨a, _ | ⟨b, _ | ⟨c, _ | ⟨d, _ | ⟨e, r⟩⟩⟩⟩⟩ <;> first | rfl | exact absurd rfl hn
        by_cases w4 : w = forgetS
        · have hw : w = ⟨#[102, 111, 114, 103, 101, 116]⟩ := w4
          subst hw
          clear w0 w1 w2 w3 w4
          by_cases hn : ys.length = 3
          · obtain ⟨a, b, c, rfl⟩ : ∃ a b c, ys = [a, b, c] := by
              match ys, hn with
              | [a, b, c], _ => exact ⟨_, _, _, rfl⟩
            have hl := fits_lc T L k (st := st) [(a, ⟨#[110, 97, 109, 101]⟩), (b, ⟨#[110, 97, 109, 101, 32, 111, 114, 32, 99, 104, 101, 115, 116]⟩), (c, ⟨#[109, 101, 97, 115, 117, 114, 101, 115]⟩)] (some (.d (.tup (.str ⟨#[102, 111, 114, 103, 101, 116]⟩ :: [a, b, c])))) (some (.d (.str ⟨#[102, 111, 114, 103, 101, 116]⟩))) (some (.d (.lst [a, b, c])))
            simp only [List.map_cons, List.map_nil, fit_c, fit_m, fit_n] at hl
            simp only [List.map_cons, List.map_nil, List.length_cons, List.length_nil, List.replicate, List.cons_append, List.nil_append, List.append_nil, Nat.reduceAdd, Nat.reduceSub, Nat.zero_add,
      e_var, e_con, e_bin, k_bin1, k_bin2, e_neg, k_neg, e_not, k_not, e_and, k_and, e_or, k_or, e_cmp, k_cmp1, k_cmp2, e_chain, k_ch1, k_ch2, e_ite, k_ite, e_call, k_call1, k_call2, e_blt, k_blt, e_meth, k_meth1, k_meth2, e_tup, e_lst, e_dct0, e_dcd, e_idx, k_idx1, k_idx2, e_slc, k_slc1, k_slc2, k_slc3, o_none, o_some, k_o, e_new, k_new, e_lc, k_lc, lc_g, es_nil, es_cons, k_es1, k_es2, t_nil, t_cons, k_t, i_val, i_range, i_enum, k_ent, k_enl, enumD, s_par, k_par, setAll, k_body, k_turn, k_ivl, k_ivt, k_ivs,
      g_name, g_tup, g_sub, k_sub1, gs_nil, gs_cons, k_gs, s_asg, k_asg1, k_nx, s_expr, k_expr, s_ret, k_ret, s_iff, k_if, s_for, k_for, s_aug, s_pass, ss_nil, ss_cons, k_ss, bind_ok, bind_exc, bind_stuck, go_ok, go_exc, seq_nx, seq_rt, seq_exc, turn_nx, turn_rt, turn_exc, calm_ok', end_d, end_nx, end_exc, tru_bl, give, give_b, ders, der, arrD, List.getElem?_cons_zero, List.getElem?_cons_succ, List.set_cons_zero, List.set_cons_succ, if_true, if_false, Bool.false_eq_true, Bool.not_true, Bool.not_false, List.take_length,
      e_isi, k_isi, e_tin, k_tinP, k_tinN, e_tget, k_tget, g_star, i_zip, is_int_non, is_int_bl, is_int_int, is_int_str, is_int_tup, is_int_lst, is_int_dct, is_str_non, is_str_bl, is_str_int, is_str_str, is_str_tup, is_str_lst, is_str_dct, is_bool_non, is_bool_bl, is_bool_int, is_bool_str, is_bool_tup, is_bool_lst, is_bool_dct, is_tuple_non, is_tuple_bl, is_tuple_int, is_tuple_str, is_tuple_tup, is_tuple_lst, is_tuple_dct, is_list_non, is_list_bl, is_list_int, is_list_str, is_list_tup, is_list_lst, is_list_dct, is_dict_non, is_dict_bl, is_dict_int, is_dict_str, is_dict_tup, is_dict_lst, is_dict_dct,
      bfD, len_s, len_l, len_t, c_eq_ii, c_ne_ii, c_lt_ii, c_le_ii, c_gt_ii, c_ge_ii, c_is_non, c_isn_non, noneD, Int.cast_ofNat_Int, Int.reduceEq, Int.reduceLT, Int.reduceLE, decide_true, decide_false, kTup, kLst, pures, sizeLine_eq, Nat.reduceLeDiff, g_tupq, idx_q0, idx_q1, is_tuple_q, len_q, k_ivq, ix0, lk_forget, Option.isSome_some, star_t, zip_lt, zipD, wipeE, hl, allD, bools, List.all_cons, List.all_nil, id, dd_forget]
            cases g0 : nameD a <;> simp only [List.map_cons, List.map_nil, List.length_cons, List.length_nil, List.replicate, List.cons_append, List.nil_append, List.append_nil, Nat.reduceAdd, Nat.reduceSub, Nat.zero_add,
      e_var, e_con, e_bin, k_bin1, k_bin2, e_neg, k_neg, e_not, k_not, e_and, k_and, e_or, k_or, e_cmp, k_cmp1, k_cmp2, e_chain, k_ch1, k_ch2, e_ite, k_ite, e_call, k_call1, k_call2, e_blt, k_blt, e_meth, k_meth1, k_meth2, e_tup, e_lst, e_dct0, e_dcd, e_idx, k_idx1, k_idx2, e_slc, k_slc1, k_slc2, k_slc3, o_none, o_some, k_o, e_new, k_new, e_lc, k_lc, lc_g, es_nil, es_cons, k_es1, k_es2, t_nil, t_cons, k_t, i_val, i_range, i_enum, k_ent, k_enl, enumD, s_par, k_par, setAll, k_body, k_turn, k_ivl, k_ivt, k_ivs,
      g_name, g_tup, g_sub, k_sub1, gs_nil, gs_cons, k_gs, s_asg, k_asg1, k_nx, s_expr, k_expr, s_ret, k_ret, s_iff, k_if, s_for, k_for, s_aug, s_pass, ss_nil, ss_cons, k_ss, bind_ok, bind_exc, bind_stuck, go_ok, go_exc, seq_nx, seq_rt, seq_exc, turn_nx, turn_rt, turn_exc, calm_ok', end_d, end_nx, end_exc, tru_bl, give, give_b, ders, der, arrD, List.getElem?_cons_zero, List.getElem?_cons_succ, List.set_cons_zero, List.set_cons_succ, if_true, if_false, Bool.false_eq_true, Bool.not_true, Bool.not_false, List.take_length,
      e_isi, k_isi, e_tin, k_tinP, k_tinN, e_tget, k_tget, g_star, i_zip, is_int_non, is_int_bl, is_int_int, is_int_str, is_int_tup, is_int_lst, is_int_dct, is_str_non, is_str_bl, is_str_int, is_str_str, is_str_tup, is_str_lst, is_str_dct, is_bool_non, is_bool_bl, is_bool_int, is_bool_str, is_bool_tup, is_bool_lst, is_bool_dct, is_tuple_non, is_tuple_bl, is_tuple_int, is_tuple_str, is_tuple_tup, is_tuple_lst, is_tuple_dct, is_list_non, is_list_bl, is_list_int, is_list_str, is_list_tup, is_list_lst, is_list_dct, is_dict_non, is_dict_bl, is_dict_int, is_dict_str, is_dict_tup, is_dict_lst, is_dict_dct,
      bfD, len_s, len_l, len_t, c_eq_ii, c_ne_ii, c_lt_ii, c_le_ii, c_gt_ii, c_ge_ii, c_is_non, c_isn_non, noneD, Int.cast_ofNat_Int, Int.reduceEq, Int.reduceLT, Int.reduceLE, decide_true, decide_false, kTup, kLst, pures, sizeLine_eq, Nat.reduceLeDiff, g_tupq, idx_q0, idx_q1, is_tuple_q, len_q, k_ivq, Bool.true_and, Bool.and_true, Bool.false_and, Bool.and_false, ni_forget]
            cases g1 : (chestD b || nameD b) <;> simp only [List.map_cons, List.map_nil, List.length_cons, List.length_nil, List.replicate, List.cons_append, List.nil_append, List.append_nil, Nat.reduceAdd, Nat.reduceSub, Nat.zero_add,
      e_var, e_con, e_bin, k_bin1, k_bin2, e_neg, k_neg, e_not, k_not, e_and, k_and, e_or, k_or, e_cmp, k_cmp1, k_cmp2, e_chain, k_ch1, k_ch2, e_ite, k_ite, e_call, k_call1, k_call2, e_blt, k_blt, e_meth, k_meth1, k_meth2, e_tup, e_lst, e_dct0, e_dcd, e_idx, k_idx1, k_idx2, e_slc, k_slc1, k_slc2, k_slc3, o_none, o_some, k_o, e_new, k_new, e_lc, k_lc, lc_g, es_nil, es_cons, k_es1, k_es2, t_nil, t_cons, k_t, i_val, i_range, i_enum, k_ent, k_enl, enumD, s_par, k_par, setAll, k_body, k_turn, k_ivl, k_ivt, k_ivs,
      g_name, g_tup, g_sub, k_sub1, gs_nil, gs_cons, k_gs, s_asg, k_asg1, k_nx, s_expr, k_expr, s_ret, k_ret, s_iff, k_if, s_for, k_for, s_aug, s_pass, ss_nil, ss_cons, k_ss, bind_ok, bind_exc, bind_stuck, go_ok, go_exc, seq_nx, seq_rt, seq_exc, turn_nx, turn_rt, turn_exc, calm_ok', end_d, end_nx, end_exc, tru_bl, give, give_b, ders, der, arrD, List.getElem?_cons_zero, List.getElem?_cons_succ, List.set_cons_zero, List.set_cons_succ, if_true, if_false, Bool.false_eq_true, Bool.not_true, Bool.not_false, List.take_length,
      e_isi, k_isi, e_tin, k_tinP, k_tinN, e_tget, k_tget, g_star, i_zip, is_int_non, is_int_bl, is_int_int, is_int_str, is_int_tup, is_int_lst, is_int_dct, is_str_non, is_str_bl, is_str_int, is_str_str, is_str_tup, is_str_lst, is_str_dct, is_bool_non, is_bool_bl, is_bool_int, is_bool_str, is_bool_tup, is_bool_lst, is_bool_dct, is_tuple_non, is_tuple_bl, is_tuple_int, is_tuple_str, is_tuple_tup, is_tuple_lst, is_tuple_dct, is_list_non, is_list_bl, is_list_int, is_list_str, is_list_tup, is_list_lst, is_list_dct, is_dict_non, is_dict_bl, is_dict_int, is_dict_str, is_dict_tup, is_dict_lst, is_dict_dct,
      bfD, len_s, len_l, len_t, c_eq_ii, c_ne_ii, c_lt_ii, c_le_ii, c_gt_ii, c_ge_ii, c_is_non, c_isn_non, noneD, Int.cast_ofNat_Int, Int.reduceEq, Int.reduceLT, Int.reduceLE, decide_true, decide_false, kTup, kLst, pures, sizeLine_eq, Nat.reduceLeDiff, g_tupq, idx_q0, idx_q1, is_tuple_q, len_q, k_ivq, Bool.true_and, Bool.and_true, Bool.false_and, Bool.and_false, ni_forget]
            cases g2 : wholeD c 1 9999 <;> simp only [List.map_cons, List.map_nil, List.length_cons, List.length_nil, List.replicate, List.cons_append, List.nil_append, List.append_nil, Nat.reduceAdd, Nat.reduceSub, Nat.zero_add,
      e_var, e_con, e_bin, k_bin1, k_bin2, e_neg, k_neg, e_not, k_not, e_and, k_and, e_or, k_or, e_cmp, k_cmp1, k_cmp2, e_chain, k_ch1, k_ch2, e_ite, k_ite, e_call, k_call1, k_call2, e_blt, k_blt, e_meth, k_meth1, k_meth2, e_tup, e_lst, e_dct0, e_dcd, e_idx, k_idx1, k_idx2, e_slc, k_slc1, k_slc2, k_slc3, o_none, o_some, k_o, e_new, k_new, e_lc, k_lc, lc_g, es_nil, es_cons, k_es1, k_es2, t_nil, t_cons, k_t, i_val, i_range, i_enum, k_ent, k_enl, enumD, s_par, k_par, setAll, k_body, k_turn, k_ivl, k_ivt, k_ivs,
      g_name, g_tup, g_sub, k_sub1, gs_nil, gs_cons, k_gs, s_asg, k_asg1, k_nx, s_expr, k_expr, s_ret, k_ret, s_iff, k_if, s_for, k_for, s_aug, s_pass, ss_nil, ss_cons, k_ss, bind_ok, bind_exc, bind_stuck, go_ok, go_exc, seq_nx, seq_rt, seq_exc, turn_nx, turn_rt, turn_exc, calm_ok', end_d, end_nx, end_exc, tru_bl, give, give_b, ders, der, arrD, List.getElem?_cons_zero, List.getElem?_cons_succ, List.set_cons_zero, List.set_cons_succ, if_true, if_false, Bool.false_eq_true, Bool.not_true, Bool.not_false, List.take_length,
      e_isi, k_isi, e_tin, k_tinP, k_tinN, e_tget, k_tget, g_star, i_zip, is_int_non, is_int_bl, is_int_int, is_int_str, is_int_tup, is_int_lst, is_int_dct, is_str_non, is_str_bl, is_str_int, is_str_str, is_str_tup, is_str_lst, is_str_dct, is_bool_non, is_bool_bl, is_bool_int, is_bool_str, is_bool_tup, is_bool_lst, is_bool_dct, is_tuple_non, is_tuple_bl, is_tuple_int, is_tuple_str, is_tuple_tup, is_tuple_lst, is_tuple_dct, is_list_non, is_list_bl, is_list_int, is_list_str, is_list_tup, is_list_lst, is_list_dct, is_dict_non, is_dict_bl, is_dict_int, is_dict_str, is_dict_tup, is_dict_lst, is_dict_dct,
      bfD, len_s, len_l, len_t, c_eq_ii, c_ne_ii, c_lt_ii, c_le_ii, c_gt_ii, c_ge_ii, c_is_non, c_isn_non, noneD, Int.cast_ofNat_Int, Int.reduceEq, Int.reduceLT, Int.reduceLE, decide_true, decide_false, kTup, kLst, pures, sizeLine_eq, Nat.reduceLeDiff, g_tupq, idx_q0, idx_q1, is_tuple_q, len_q, k_ivq, Bool.true_and, Bool.and_true, Bool.false_and, Bool.and_false, ni_forget]
            obtain ⟨sa, rfl⟩ := name_str g0
            obtain ⟨sb, rfl⟩ := cn_str g1
            simp only [il0, il1, c_ne_ss, nd_ss, List.map_cons, List.map_nil, List.length_cons, List.length_nil, List.replicate, List.cons_append, List.nil_append, List.append_nil, Nat.reduceAdd, Nat.reduceSub, Nat.zero_add,
      e_var, e_con, e_bin, k_bin1, k_bin2, e_neg, k_neg, e_not, k_not, e_and, k_and, e_or, k_or, e_cmp, k_cmp1, k_cmp2, e_chain, k_ch1, k_ch2, e_ite, k_ite, e_call, k_call1, k_call2, e_blt, k_blt, e_meth, k_meth1, k_meth2, e_tup, e_lst, e_dct0, e_dcd, e_idx, k_idx1, k_idx2, e_slc, k_slc1, k_slc2, k_slc3, o_none, o_some, k_o, e_new, k_new, e_lc, k_lc, lc_g, es_nil, es_cons, k_es1, k_es2, t_nil, t_cons, k_t, i_val, i_range, i_enum, k_ent, k_enl, enumD, s_par, k_par, setAll, k_body, k_turn, k_ivl, k_ivt, k_ivs,
      g_name, g_tup, g_sub, k_sub1, gs_nil, gs_cons, k_gs, s_asg, k_asg1, k_nx, s_expr, k_expr, s_ret, k_ret, s_iff, k_if, s_for, k_for, s_aug, s_pass, ss_nil, ss_cons, k_ss, bind_ok, bind_exc, bind_stuck, go_ok, go_exc, seq_nx, seq_rt, seq_exc, turn_nx, turn_rt, turn_exc, calm_ok', end_d, end_nx, end_exc, tru_bl, give, give_b, ders, der, arrD, List.getElem?_cons_zero, List.getElem?_cons_succ, List.set_cons_zero, List.set_cons_succ, if_true, if_false, Bool.false_eq_true, Bool.not_true, Bool.not_false, List.take_length,
      e_isi, k_isi, e_tin, k_tinP, k_tinN, e_tget, k_tget, g_star, i_zip, is_int_non, is_int_bl, is_int_int, is_int_str, is_int_tup, is_int_lst, is_int_dct, is_str_non, is_str_bl, is_str_int, is_str_str, is_str_tup, is_str_lst, is_str_dct, is_bool_non, is_bool_bl, is_bool_int, is_bool_str, is_bool_tup, is_bool_lst, is_bool_dct, is_tuple_non, is_tuple_bl, is_tuple_int, is_tuple_str, is_tuple_tup, is_tuple_lst, is_tuple_dct, is_list_non, is_list_bl, is_list_int, is_list_str, is_list_tup, is_list_lst, is_list_dct, is_dict_non, is_dict_bl, is_dict_int, is_dict_str, is_dict_tup, is_dict_lst, is_dict_dct,
      bfD, len_s, len_l, len_t, c_eq_ii, c_ne_ii, c_lt_ii, c_le_ii, c_gt_ii, c_ge_ii, c_is_non, c_isn_non, noneD, Int.cast_ofNat_Int, Int.reduceEq, Int.reduceLT, Int.reduceLE, decide_true, decide_false, kTup, kLst, pures, sizeLine_eq, Nat.reduceLeDiff, g_tupq, idx_q0, idx_q1, is_tuple_q, len_q, k_ivq]
          · have hd : decide ((ys.length : Int) = 3) = false := by rw [decide_eq_false_iff_not]; omega
            simp only [List.map_cons, List.map_nil, List.length_cons, List.length_nil, List.replicate, List.cons_append, List.nil_append, List.append_nil, Nat.reduceAdd, Nat.reduceSub, Nat.zero_add,
      e_var, e_con, e_bin, k_bin1, k_bin2, e_neg, k_neg, e_not, k_not, e_and, k_and, e_or, k_or, e_cmp, k_cmp1, k_cmp2, e_chain, k_ch1, k_ch2, e_ite, k_ite, e_call, k_call1, k_call2, e_blt, k_blt, e_meth, k_meth1, k_meth2, e_tup, e_lst, e_dct0, e_dcd, e_idx, k_idx1, k_idx2, e_slc, k_slc1, k_slc2, k_slc3, o_none, o_some, k_o, e_new, k_new, e_lc, k_lc, lc_g, es_nil, es_cons, k_es1, k_es2, t_nil, t_cons, k_t, i_val, i_range, i_enum, k_ent, k_enl, enumD, s_par, k_par, setAll, k_body, k_turn, k_ivl, k_ivt, k_ivs,
      g_name, g_tup, g_sub, k_sub1, gs_nil, gs_cons, k_gs, s_asg, k_asg1, k_nx, s_expr, k_expr, s_ret, k_ret, s_iff, k_if, s_for, k_for, s_aug, s_pass, ss_nil, ss_cons, k_ss, bind_ok, bind_exc, bind_stuck, go_ok, go_exc, seq_nx, seq_rt, seq_exc, turn_nx, turn_rt, turn_exc, calm_ok', end_d, end_nx, end_exc, tru_bl, give, give_b, ders, der, arrD, List.getElem?_cons_zero, List.getElem?_cons_succ, List.set_cons_zero, List.set_cons_succ, if_true, if_false, Bool.false_eq_true, Bool.not_true, Bool.not_false, List.take_length,
      e_isi, k_isi, e_tin, k_tinP, k_tinN, e_tget, k_tget, g_star, i_zip, is_int_non, is_int_bl, is_int_int, is_int_str, is_int_tup, is_int_lst, is_int_dct, is_str_non, is_str_bl, is_str_int, is_str_str, is_str_tup, is_str_lst, is_str_dct, is_bool_non, is_bool_bl, is_bool_int, is_bool_str, is_bool_tup, is_bool_lst, is_bool_dct, is_tuple_non, is_tuple_bl, is_tuple_int, is_tuple_str, is_tuple_tup, is_tuple_lst, is_tuple_dct, is_list_non, is_list_bl, is_list_int, is_list_str, is_list_tup, is_list_lst, is_list_dct, is_dict_non, is_dict_bl, is_dict_int, is_dict_str, is_dict_tup, is_dict_lst, is_dict_dct,
      bfD, len_s, len_l, len_t, c_eq_ii, c_ne_ii, c_lt_ii, c_le_ii, c_gt_ii, c_ge_ii, c_is_non, c_isn_non, noneD, Int.cast_ofNat_Int, Int.reduceEq, Int.reduceLT, Int.reduceLE, decide_true, decide_false, kTup, kLst, pures, sizeLine_eq, Nat.reduceLeDiff, g_tupq, idx_q0, idx_q1, is_tuple_q, len_q, k_ivq, ix0, lk_forget, Option.isSome_some, star_t, hd]
            rcases ys with _ | ⟨a, _ | ⟨b, _ | ⟨c, _ | ⟨d, _ | ⟨e, r⟩⟩⟩⟩⟩ <;> first | rfl | exact absurd rfl hn
        by_cases w5 : w = goS
        · have hw : w = ⟨#[103, 111]⟩ := w5
          subst hw
          clear w0 w1 w2 w3 w4 w5
          by_cases hn : ys.length = 1
          · obtain ⟨a, rfl⟩ : ∃ a, ys = [a] := by
              match ys, hn with
              | [a], _ => exact ⟨_, rfl⟩
            have hl := fits_lc T L k (st := st) [(a, ⟨#[110, 97, 109, 101]⟩)] (some (.d (.tup (.str ⟨#[103, 111]⟩ :: [a])))) (some (.d (.str ⟨#[103, 111]⟩))) (some (.d (.lst [a])))
            simp only [List.map_cons, List.map_nil, fit_n] at hl
            simp only [List.map_cons, List.map_nil, List.length_cons, List.length_nil, List.replicate, List.cons_append, List.nil_append, List.append_nil, Nat.reduceAdd, Nat.reduceSub, Nat.zero_add,
      e_var, e_con, e_bin, k_bin1, k_bin2, e_neg, k_neg, e_not, k_not, e_and, k_and, e_or, k_or, e_cmp, k_cmp1, k_cmp2, e_chain, k_ch1, k_ch2, e_ite, k_ite, e_call, k_call1, k_call2, e_blt, k_blt, e_meth, k_meth1, k_meth2, e_tup, e_lst, e_dct0, e_dcd, e_idx, k_idx1, k_idx2, e_slc, k_slc1, k_slc2, k_slc3, o_none, o_some, k_o, e_new, k_new, e_lc, k_lc, lc_g, es_nil, es_cons, k_es1, k_es2, t_nil, t_cons, k_t, i_val, i_range, i_enum, k_ent, k_enl, enumD, s_par, k_par, setAll, k_body, k_turn, k_ivl, k_ivt, k_ivs,
      g_name, g_tup, g_sub, k_sub1, gs_nil, gs_cons, k_gs, s_asg, k_asg1, k_nx, s_expr, k_expr, s_ret, k_ret, s_iff, k_if, s_for, k_for, s_aug, s_pass, ss_nil, ss_cons, k_ss, bind_ok, bind_exc, bind_stuck, go_ok, go_exc, seq_nx, seq_rt, seq_exc, turn_nx, turn_rt, turn_exc, calm_ok', end_d, end_nx, end_exc, tru_bl, give, give_b, ders, der, arrD, List.getElem?_cons_zero, List.getElem?_cons_succ, List.set_cons_zero, List.set_cons_succ, if_true, if_false, Bool.false_eq_true, Bool.not_true, Bool.not_false, List.take_length,
      e_isi, k_isi, e_tin, k_tinP, k_tinN, e_tget, k_tget, g_star, i_zip, is_int_non, is_int_bl, is_int_int, is_int_str, is_int_tup, is_int_lst, is_int_dct, is_str_non, is_str_bl, is_str_int, is_str_str, is_str_tup, is_str_lst, is_str_dct, is_bool_non, is_bool_bl, is_bool_int, is_bool_str, is_bool_tup, is_bool_lst, is_bool_dct, is_tuple_non, is_tuple_bl, is_tuple_int, is_tuple_str, is_tuple_tup, is_tuple_lst, is_tuple_dct, is_list_non, is_list_bl, is_list_int, is_list_str, is_list_tup, is_list_lst, is_list_dct, is_dict_non, is_dict_bl, is_dict_int, is_dict_str, is_dict_tup, is_dict_lst, is_dict_dct,
      bfD, len_s, len_l, len_t, c_eq_ii, c_ne_ii, c_lt_ii, c_le_ii, c_gt_ii, c_ge_ii, c_is_non, c_isn_non, noneD, Int.cast_ofNat_Int, Int.reduceEq, Int.reduceLT, Int.reduceLE, decide_true, decide_false, kTup, kLst, pures, sizeLine_eq, Nat.reduceLeDiff, g_tupq, idx_q0, idx_q1, is_tuple_q, len_q, k_ivq, ix0, lk_go, Option.isSome_some, star_t, zip_lt, zipD, wipeE, hl, allD, bools, List.all_cons, List.all_nil, id, dd_go]
            cases g0 : nameD a <;> simp only [List.map_cons, List.map_nil, List.length_cons, List.length_nil, List.replicate, List.cons_append, List.nil_append, List.append_nil, Nat.reduceAdd, Nat.reduceSub, Nat.zero_add,
      e_var, e_con, e_bin, k_bin1, k_bin2, e_neg, k_neg, e_not, k_not, e_and, k_and, e_or, k_or, e_cmp, k_cmp1, k_cmp2, e_chain, k_ch1, k_ch2, e_ite, k_ite, e_call, k_call1, k_call2, e_blt, k_blt, e_meth, k_meth1, k_meth2, e_tup, e_lst, e_dct0, e_dcd, e_idx, k_idx1, k_idx2, e_slc, k_slc1, k_slc2, k_slc3, o_none, o_some, k_o, e_new, k_new, e_lc, k_lc, lc_g, es_nil, es_cons, k_es1, k_es2, t_nil, t_cons, k_t, i_val, i_range, i_enum, k_ent, k_enl, enumD, s_par, k_par, setAll, k_body, k_turn, k_ivl, k_ivt, k_ivs,
      g_name, g_tup, g_sub, k_sub1, gs_nil, gs_cons, k_gs, s_asg, k_asg1, k_nx, s_expr, k_expr, s_ret, k_ret, s_iff, k_if, s_for, k_for, s_aug, s_pass, ss_nil, ss_cons, k_ss, bind_ok, bind_exc, bind_stuck, go_ok, go_exc, seq_nx, seq_rt, seq_exc, turn_nx, turn_rt, turn_exc, calm_ok', end_d, end_nx, end_exc, tru_bl, give, give_b, ders, der, arrD, List.getElem?_cons_zero, List.getElem?_cons_succ, List.set_cons_zero, List.set_cons_succ, if_true, if_false, Bool.false_eq_true, Bool.not_true, Bool.not_false, List.take_length,
      e_isi, k_isi, e_tin, k_tinP, k_tinN, e_tget, k_tget, g_star, i_zip, is_int_non, is_int_bl, is_int_int, is_int_str, is_int_tup, is_int_lst, is_int_dct, is_str_non, is_str_bl, is_str_int, is_str_str, is_str_tup, is_str_lst, is_str_dct, is_bool_non, is_bool_bl, is_bool_int, is_bool_str, is_bool_tup, is_bool_lst, is_bool_dct, is_tuple_non, is_tuple_bl, is_tuple_int, is_tuple_str, is_tuple_tup, is_tuple_lst, is_tuple_dct, is_list_non, is_list_bl, is_list_int, is_list_str, is_list_tup, is_list_lst, is_list_dct, is_dict_non, is_dict_bl, is_dict_int, is_dict_str, is_dict_tup, is_dict_lst, is_dict_dct,
      bfD, len_s, len_l, len_t, c_eq_ii, c_ne_ii, c_lt_ii, c_le_ii, c_gt_ii, c_ge_ii, c_is_non, c_isn_non, noneD, Int.cast_ofNat_Int, Int.reduceEq, Int.reduceLT, Int.reduceLE, decide_true, decide_false, kTup, kLst, pures, sizeLine_eq, Nat.reduceLeDiff, g_tupq, idx_q0, idx_q1, is_tuple_q, len_q, k_ivq, Bool.true_and, Bool.and_true, Bool.false_and, Bool.and_false, ni_go]
          · have hd : decide ((ys.length : Int) = 1) = false := by rw [decide_eq_false_iff_not]; omega
            simp only [List.map_cons, List.map_nil, List.length_cons, List.length_nil, List.replicate, List.cons_append, List.nil_append, List.append_nil, Nat.reduceAdd, Nat.reduceSub, Nat.zero_add,
      e_var, e_con, e_bin, k_bin1, k_bin2, e_neg, k_neg, e_not, k_not, e_and, k_and, e_or, k_or, e_cmp, k_cmp1, k_cmp2, e_chain, k_ch1, k_ch2, e_ite, k_ite, e_call, k_call1, k_call2, e_blt, k_blt, e_meth, k_meth1, k_meth2, e_tup, e_lst, e_dct0, e_dcd, e_idx, k_idx1, k_idx2, e_slc, k_slc1, k_slc2, k_slc3, o_none, o_some, k_o, e_new, k_new, e_lc, k_lc, lc_g, es_nil, es_cons, k_es1, k_es2, t_nil, t_cons, k_t, i_val, i_range, i_enum, k_ent, k_enl, enumD, s_par, k_par, setAll, k_body, k_turn, k_ivl, k_ivt, k_ivs,
      g_name, g_tup, g_sub, k_sub1, gs_nil, gs_cons, k_gs, s_asg, k_asg1, k_nx, s_expr, k_expr, s_ret, k_ret, s_iff, k_if, s_for, k_for, s_aug, s_pass, ss_nil, ss_cons, k_ss, bind_ok, bind_exc, bind_stuck, go_ok, go_exc, seq_nx, seq_rt, seq_exc, turn_nx, turn_rt, turn_exc, calm_ok', end_d, end_nx, end_exc, tru_bl, give, give_b, ders, der, arrD, List.getElem?_cons_zero, List.getElem?_cons_succ, List.set_cons_zero, List.set_cons_succ, if_true, if_false, Bool.false_eq_true, Bool.not_true, Bool.not_false, List.take_length,
      e_isi, k_isi, e_tin, k_tinP, k_tinN, e_tget, k_tget, g_star, i_zip, is_int_non, is_int_bl, is_int_int, is_int_str, is_int_tup, is_int_lst, is_int_dct, is_str_non, is_str_bl, is_str_int, is_str_str, is_str_tup, is_str_lst, is_str_dct, is_bool_non, is_bool_bl, is_bool_int, is_bool_str, is_bool_tup, is_bool_lst, is_bool_dct, is_tuple_non, is_tuple_bl, is_tuple_int, is_tuple_str, is_tuple_tup, is_tuple_lst, is_tuple_dct, is_list_non, is_list_bl, is_list_int, is_list_str, is_list_tup, is_list_lst, is_list_dct, is_dict_non, is_dict_bl, is_dict_int, is_dict_str, is_dict_tup, is_dict_lst, is_dict_dct,
      bfD, len_s, len_l, len_t, c_eq_ii, c_ne_ii, c_lt_ii, c_le_ii, c_gt_ii, c_ge_ii, c_is_non, c_isn_non, noneD, Int.cast_ofNat_Int, Int.reduceEq, Int.reduceLT, Int.reduceLE, decide_true, decide_false, kTup, kLst, pures, sizeLine_eq, Nat.reduceLeDiff, g_tupq, idx_q0, idx_q1, is_tuple_q, len_q, k_ivq, ix0, lk_go, Option.isSome_some, star_t, hd]
            rcases ys with _ | ⟨a, _ | ⟨b, _ | ⟨c, _ | ⟨d, _ | ⟨e, r⟩⟩⟩⟩⟩ <;> first | rfl | exact absurd rfl hn
        have e0 : (w == comeS) = false := beq_eq_false_iff_ne.mpr w0
        have e1 : (w == bringS) = false := beq_eq_false_iff_ne.mpr w1
        have e2 : (w == giveS) = false := beq_eq_false_iff_ne.mpr w2
        have e3 : (w == handS) = false := beq_eq_false_iff_ne.mpr w3
        have e4 : (w == forgetS) = false := beq_eq_false_iff_ne.mpr w4
        have e5 : (w == goS) = false := beq_eq_false_iff_ne.mpr w5
        simp only [List.map_cons, List.map_nil, List.length_cons, List.length_nil, List.replicate, List.cons_append, List.nil_append, List.append_nil, Nat.reduceAdd, Nat.reduceSub, Nat.zero_add,
      e_var, e_con, e_bin, k_bin1, k_bin2, e_neg, k_neg, e_not, k_not, e_and, k_and, e_or, k_or, e_cmp, k_cmp1, k_cmp2, e_chain, k_ch1, k_ch2, e_ite, k_ite, e_call, k_call1, k_call2, e_blt, k_blt, e_meth, k_meth1, k_meth2, e_tup, e_lst, e_dct0, e_dcd, e_idx, k_idx1, k_idx2, e_slc, k_slc1, k_slc2, k_slc3, o_none, o_some, k_o, e_new, k_new, e_lc, k_lc, lc_g, es_nil, es_cons, k_es1, k_es2, t_nil, t_cons, k_t, i_val, i_range, i_enum, k_ent, k_enl, enumD, s_par, k_par, setAll, k_body, k_turn, k_ivl, k_ivt, k_ivs,
      g_name, g_tup, g_sub, k_sub1, gs_nil, gs_cons, k_gs, s_asg, k_asg1, k_nx, s_expr, k_expr, s_ret, k_ret, s_iff, k_if, s_for, k_for, s_aug, s_pass, ss_nil, ss_cons, k_ss, bind_ok, bind_exc, bind_stuck, go_ok, go_exc, seq_nx, seq_rt, seq_exc, turn_nx, turn_rt, turn_exc, calm_ok', end_d, end_nx, end_exc, tru_bl, give, give_b, ders, der, arrD, List.getElem?_cons_zero, List.getElem?_cons_succ, List.set_cons_zero, List.set_cons_succ, if_true, if_false, Bool.false_eq_true, Bool.not_true, Bool.not_false, List.take_length,
      e_isi, k_isi, e_tin, k_tinP, k_tinN, e_tget, k_tget, g_star, i_zip, is_int_non, is_int_bl, is_int_int, is_int_str, is_int_tup, is_int_lst, is_int_dct, is_str_non, is_str_bl, is_str_int, is_str_str, is_str_tup, is_str_lst, is_str_dct, is_bool_non, is_bool_bl, is_bool_int, is_bool_str, is_bool_tup, is_bool_lst, is_bool_dct, is_tuple_non, is_tuple_bl, is_tuple_int, is_tuple_str, is_tuple_tup, is_tuple_lst, is_tuple_dct, is_list_non, is_list_bl, is_list_int, is_list_str, is_list_tup, is_list_lst, is_list_dct, is_dict_non, is_dict_bl, is_dict_int, is_dict_str, is_dict_tup, is_dict_lst, is_dict_dct,
      bfD, len_s, len_l, len_t, c_eq_ii, c_ne_ii, c_lt_ii, c_le_ii, c_gt_ii, c_ge_ii, c_is_non, c_isn_non, noneD, Int.cast_ofNat_Int, Int.reduceEq, Int.reduceLT, Int.reduceLE, decide_true, decide_false, kTup, kLst, pures, sizeLine_eq, Nat.reduceLeDiff, g_tupq, idx_q0, idx_q1, is_tuple_q, len_q, k_ivq, ix0, lk_no w e0 e1 e2 e3 e4 e5, Option.isSome_none]
        unfold deedD
        split <;> first | rfl | (rename_i hh; cases hh; simp only [e0, e1, e2, e3, e4, e5, Bool.false_or, Bool.false_and, Bool.and_false, if_false, Bool.false_eq_true])
      | _ => simp only [List.map_cons, List.map_nil, List.length_cons, List.length_nil, List.replicate, List.cons_append, List.nil_append, List.append_nil, Nat.reduceAdd, Nat.reduceSub, Nat.zero_add,
      e_var, e_con, e_bin, k_bin1, k_bin2, e_neg, k_neg, e_not, k_not, e_and, k_and, e_or, k_or, e_cmp, k_cmp1, k_cmp2, e_chain, k_ch1, k_ch2, e_ite, k_ite, e_call, k_call1, k_call2, e_blt, k_blt, e_meth, k_meth1, k_meth2, e_tup, e_lst, e_dct0, e_dcd, e_idx, k_idx1, k_idx2, e_slc, k_slc1, k_slc2, k_slc3, o_none, o_some, k_o, e_new, k_new, e_lc, k_lc, lc_g, es_nil, es_cons, k_es1, k_es2, t_nil, t_cons, k_t, i_val, i_range, i_enum, k_ent, k_enl, enumD, s_par, k_par, setAll, k_body, k_turn, k_ivl, k_ivt, k_ivs,
      g_name, g_tup, g_sub, k_sub1, gs_nil, gs_cons, k_gs, s_asg, k_asg1, k_nx, s_expr, k_expr, s_ret, k_ret, s_iff, k_if, s_for, k_for, s_aug, s_pass, ss_nil, ss_cons, k_ss, bind_ok, bind_exc, bind_stuck, go_ok, go_exc, seq_nx, seq_rt, seq_exc, turn_nx, turn_rt, turn_exc, calm_ok', end_d, end_nx, end_exc, tru_bl, give, give_b, ders, der, arrD, List.getElem?_cons_zero, List.getElem?_cons_succ, List.set_cons_zero, List.set_cons_succ, if_true, if_false, Bool.false_eq_true, Bool.not_true, Bool.not_false, List.take_length,
      e_isi, k_isi, e_tin, k_tinP, k_tinN, e_tget, k_tget, g_star, i_zip, is_int_non, is_int_bl, is_int_int, is_int_str, is_int_tup, is_int_lst, is_int_dct, is_str_non, is_str_bl, is_str_int, is_str_str, is_str_tup, is_str_lst, is_str_dct, is_bool_non, is_bool_bl, is_bool_int, is_bool_str, is_bool_tup, is_bool_lst, is_bool_dct, is_tuple_non, is_tuple_bl, is_tuple_int, is_tuple_str, is_tuple_tup, is_tuple_lst, is_tuple_dct, is_list_non, is_list_bl, is_list_int, is_list_str, is_list_tup, is_list_lst, is_list_dct, is_dict_non, is_dict_bl, is_dict_int, is_dict_str, is_dict_tup, is_dict_lst, is_dict_dct,
      bfD, len_s, len_l, len_t, c_eq_ii, c_ne_ii, c_lt_ii, c_le_ii, c_gt_ii, c_ge_ii, c_is_non, c_isn_non, noneD, Int.cast_ofNat_Int, Int.reduceEq, Int.reduceLT, Int.reduceLE, decide_true, decide_false, kTup, kLst, pures, sizeLine_eq, Nat.reduceLeDiff, g_tupq, idx_q0, idx_q1, is_tuple_q, len_q, k_ivq] <;> simp only [deedD]
  | _ => simp only [List.map_cons, List.map_nil, List.length_cons, List.length_nil, List.replicate, List.cons_append, List.nil_append, List.append_nil, Nat.reduceAdd, Nat.reduceSub, Nat.zero_add,
      e_var, e_con, e_bin, k_bin1, k_bin2, e_neg, k_neg, e_not, k_not, e_and, k_and, e_or, k_or, e_cmp, k_cmp1, k_cmp2, e_chain, k_ch1, k_ch2, e_ite, k_ite, e_call, k_call1, k_call2, e_blt, k_blt, e_meth, k_meth1, k_meth2, e_tup, e_lst, e_dct0, e_dcd, e_idx, k_idx1, k_idx2, e_slc, k_slc1, k_slc2, k_slc3, o_none, o_some, k_o, e_new, k_new, e_lc, k_lc, lc_g, es_nil, es_cons, k_es1, k_es2, t_nil, t_cons, k_t, i_val, i_range, i_enum, k_ent, k_enl, enumD, s_par, k_par, setAll, k_body, k_turn, k_ivl, k_ivt, k_ivs,
      g_name, g_tup, g_sub, k_sub1, gs_nil, gs_cons, k_gs, s_asg, k_asg1, k_nx, s_expr, k_expr, s_ret, k_ret, s_iff, k_if, s_for, k_for, s_aug, s_pass, ss_nil, ss_cons, k_ss, bind_ok, bind_exc, bind_stuck, go_ok, go_exc, seq_nx, seq_rt, seq_exc, turn_nx, turn_rt, turn_exc, calm_ok', end_d, end_nx, end_exc, tru_bl, give, give_b, ders, der, arrD, List.getElem?_cons_zero, List.getElem?_cons_succ, List.set_cons_zero, List.set_cons_succ, if_true, if_false, Bool.false_eq_true, Bool.not_true, Bool.not_false, List.take_length,
      e_isi, k_isi, e_tin, k_tinP, k_tinN, e_tget, k_tget, g_star, i_zip, is_int_non, is_int_bl, is_int_int, is_int_str, is_int_tup, is_int_lst, is_int_dct, is_str_non, is_str_bl, is_str_int, is_str_str, is_str_tup, is_str_lst, is_str_dct, is_bool_non, is_bool_bl, is_bool_int, is_bool_str, is_bool_tup, is_bool_lst, is_bool_dct, is_tuple_non, is_tuple_bl, is_tuple_int, is_tuple_str, is_tuple_tup, is_tuple_lst, is_tuple_dct, is_list_non, is_list_bl, is_list_int, is_list_str, is_list_tup, is_list_lst, is_list_dct, is_dict_non, is_dict_bl, is_dict_int, is_dict_str, is_dict_tup, is_dict_lst, is_dict_dct,
      bfD, len_s, len_l, len_t, c_eq_ii, c_ne_ii, c_lt_ii, c_le_ii, c_gt_ii, c_ge_ii, c_is_non, c_isn_non, noneD, Int.cast_ofNat_Int, Int.reduceEq, Int.reduceLT, Int.reduceLE, decide_true, decide_false, kTup, kLst, pures, sizeLine_eq, Nat.reduceLeDiff, g_tupq, idx_q0, idx_q1, is_tuple_q, len_q, k_ivq] <;> simp only [deedD]
end
end TW
namespace TW
open PySem PySem.Spec PyProof.Rows L2
theorem dcd_forms (st : Sto) : kDcd [.d (.str ⟨#[99, 111, 109, 101]⟩), .d (.str ⟨#[110]⟩), .d (.str ⟨#[98, 114, 105, 110, 103]⟩), .d (.str ⟨#[110, 110, 109]⟩), .d (.str ⟨#[103, 105, 118, 101]⟩), .d (.str ⟨#[110, 110, 109]⟩), .d (.str ⟨#[104, 97, 110, 100]⟩), .d (.str ⟨#[110, 110, 110, 109]⟩), .d (.str ⟨#[102, 111, 114, 103, 101, 116]⟩), .d (.str ⟨#[110, 99, 109]⟩), .d (.str ⟨#[103, 111]⟩), .d (.str ⟨#[110]⟩)] st = .ok (.d (.dct [.inr ⟨#[99, 111, 109, 101]⟩, .inr ⟨#[98, 114, 105, 110, 103]⟩, .inr ⟨#[103, 105, 118, 101]⟩, .inr ⟨#[104, 97, 110, 100]⟩, .inr ⟨#[102, 111, 114, 103, 101, 116]⟩, .inr ⟨#[103, 111]⟩] [.str ⟨#[110]⟩, .str ⟨#[110, 110, 109]⟩, .str ⟨#[110, 110, 109]⟩, .str ⟨#[110, 110, 110, 109]⟩, .str ⟨#[110, 99, 109]⟩, .str ⟨#[110]⟩])) st := id rfl
theorem nd_come : cmpD .NotIn (.str ⟨#[99, 111, 109, 101]⟩) (.dct [.inr ⟨#[99, 111, 109, 101]⟩, .inr ⟨#[98, 114, 105, 110, 103]⟩, .inr ⟨#[103, 105, 118, 101]⟩, .inr ⟨#[104, 97, 110, 100]⟩, .inr ⟨#[102, 111, 114, 103, 101, 116]⟩, .inr ⟨#[103, 111]⟩] [.str ⟨#[110]⟩, .str ⟨#[110, 110, 109]⟩, .str ⟨#[110, 110, 109]⟩, .str ⟨#[110, 110, 110, 109]⟩, .str ⟨#[110, 99, 109]⟩, .str ⟨#[110]⟩]) = some false := id rfl
theorem id_come : idxD (.dct [.inr ⟨#[99, 111, 109, 101]⟩, .inr ⟨#[98, 114, 105, 110, 103]⟩, .inr ⟨#[103, 105, 118, 101]⟩, .inr ⟨#[104, 97, 110, 100]⟩, .inr ⟨#[102, 111, 114, 103, 101, 116]⟩, .inr ⟨#[103, 111]⟩] [.str ⟨#[110]⟩, .str ⟨#[110, 110, 109]⟩, .str ⟨#[110, 110, 109]⟩, .str ⟨#[110, 110, 110, 109]⟩, .str ⟨#[110, 99, 109]⟩, .str ⟨#[110]⟩]) (.str ⟨#[99, 111, 109, 101]⟩) = some (.str ⟨#[110]⟩) := id rfl
theorem nl_come : cmpD .NotIn (.str ⟨#[99, 111, 109, 101]⟩) (.lst [.str ⟨#[103, 105, 118, 101]⟩, .str ⟨#[104, 97, 110, 100]⟩, .str ⟨#[102, 111, 114, 103, 101, 116]⟩]) = some true := id rfl
theorem nd_bring : cmpD .NotIn (.str ⟨#[98, 114, 105, 110, 103]⟩) (.dct [.inr ⟨#[99, 111, 109, 101]⟩, .inr ⟨#[98, 114, 105, 110, 103]⟩, .inr ⟨#[103, 105, 118, 101]⟩, .inr ⟨#[104, 97, 110, 100]⟩, .inr ⟨#[102, 111, 114, 103, 101, 116]⟩, .inr ⟨#[103, 111]⟩] [.str ⟨#[110]⟩, .str ⟨#[110, 110, 109]⟩, .str ⟨#[110, 110, 109]⟩, .str ⟨#[110, 110, 110, 109]⟩, .str ⟨#[110, 99, 109]⟩, .str ⟨#[110]⟩]) = some false := id rfl
theorem id_bring : idxD (.dct [.inr ⟨#[99, 111, 109, 101]⟩, .inr ⟨#[98, 114, 105, 110, 103]⟩, .inr ⟨#[103, 105, 118, 101]⟩, .inr ⟨#[104, 97, 110, 100]⟩, .inr ⟨#[102, 111, 114, 103, 101, 116]⟩, .inr ⟨#[103, 111]⟩] [.str ⟨#[110]⟩, .str ⟨#[110, 110, 109]⟩, .str ⟨#[110, 110, 109]⟩, .str ⟨#[110, 110, 110, 109]⟩, .str ⟨#[110, 99, 109]⟩, .str ⟨#[110]⟩]) (.str ⟨#[98, 114, 105, 110, 103]⟩) = some (.str ⟨#[110, 110, 109]⟩) := id rfl
theorem nl_bring : cmpD .NotIn (.str ⟨#[98, 114, 105, 110, 103]⟩) (.lst [.str ⟨#[103, 105, 118, 101]⟩, .str ⟨#[104, 97, 110, 100]⟩, .str ⟨#[102, 111, 114, 103, 101, 116]⟩]) = some true := id rfl
theorem nd_give : cmpD .NotIn (.str ⟨#[103, 105, 118, 101]⟩) (.dct [.inr ⟨#[99, 111, 109, 101]⟩, .inr ⟨#[98, 114, 105, 110, 103]⟩, .inr ⟨#[103, 105, 118, 101]⟩, .inr ⟨#[104, 97, 110, 100]⟩, .inr ⟨#[102, 111, 114, 103, 101, 116]⟩, .inr ⟨#[103, 111]⟩] [.str ⟨#[110]⟩, .str ⟨#[110, 110, 109]⟩, .str ⟨#[110, 110, 109]⟩, .str ⟨#[110, 110, 110, 109]⟩, .str ⟨#[110, 99, 109]⟩, .str ⟨#[110]⟩]) = some false := id rfl
theorem id_give : idxD (.dct [.inr ⟨#[99, 111, 109, 101]⟩, .inr ⟨#[98, 114, 105, 110, 103]⟩, .inr ⟨#[103, 105, 118, 101]⟩, .inr ⟨#[104, 97, 110, 100]⟩, .inr ⟨#[102, 111, 114, 103, 101, 116]⟩, .inr ⟨#[103, 111]⟩] [.str ⟨#[110]⟩, .str ⟨#[110, 110, 109]⟩, .str ⟨#[110, 110, 109]⟩, .str ⟨#[110, 110, 110, 109]⟩, .str ⟨#[110, 99, 109]⟩, .str ⟨#[110]⟩]) (.str ⟨#[103, 105, 118, 101]⟩) = some (.str ⟨#[110, 110, 109]⟩) := id rfl
theorem nl_give : cmpD .NotIn (.str ⟨#[103, 105, 118, 101]⟩) (.lst [.str ⟨#[103, 105, 118, 101]⟩, .str ⟨#[104, 97, 110, 100]⟩, .str ⟨#[102, 111, 114, 103, 101, 116]⟩]) = some false := id rfl
theorem nd_hand : cmpD .NotIn (.str ⟨#[104, 97, 110, 100]⟩) (.dct [.inr ⟨#[99, 111, 109, 101]⟩, .inr ⟨#[98, 114, 105, 110, 103]⟩, .inr ⟨#[103, 105, 118, 101]⟩, .inr ⟨#[104, 97, 110, 100]⟩, .inr ⟨#[102, 111, 114, 103, 101, 116]⟩, .inr ⟨#[103, 111]⟩] [.str ⟨#[110]⟩, .str ⟨#[110, 110, 109]⟩, .str ⟨#[110, 110, 109]⟩, .str ⟨#[110, 110, 110, 109]⟩, .str ⟨#[110, 99, 109]⟩, .str ⟨#[110]⟩]) = some false := id rfl
theorem id_hand : idxD (.dct [.inr ⟨#[99, 111, 109, 101]⟩, .inr ⟨#[98, 114, 105, 110, 103]⟩, .inr ⟨#[103, 105, 118, 101]⟩, .inr ⟨#[104, 97, 110, 100]⟩, .inr ⟨#[102, 111, 114, 103, 101, 116]⟩, .inr ⟨#[103, 111]⟩] [.str ⟨#[110]⟩, .str ⟨#[110, 110, 109]⟩, .str ⟨#[110, 110, 109]⟩, .str ⟨#[110, 110, 110, 109]⟩, .str ⟨#[110, 99, 109]⟩, .str ⟨#[110]⟩]) (.str ⟨#[104, 97, 110, 100]⟩) = some (.str ⟨#[110, 110, 110, 109]⟩) := id rfl
theorem nl_hand : cmpD .NotIn (.str ⟨#[104, 97, 110, 100]⟩) (.lst [.str ⟨#[103, 105, 118, 101]⟩, .str ⟨#[104, 97, 110, 100]⟩, .str ⟨#[102, 111, 114, 103, 101, 116]⟩]) = some false := id rfl
theorem nd_forget : cmpD .NotIn (.str ⟨#[102, 111, 114, 103, 101, 116]⟩) (.dct [.inr ⟨#[99, 111, 109, 101]⟩, .inr ⟨#[98, 114, 105, 110, 103]⟩, .inr ⟨#[103, 105, 118, 101]⟩, .inr ⟨#[104, 97, 110, 100]⟩, .inr ⟨#[102, 111, 114, 103, 101, 116]⟩, .inr ⟨#[103, 111]⟩] [.str ⟨#[110]⟩, .str ⟨#[110, 110, 109]⟩, .str ⟨#[110, 110, 109]⟩, .str ⟨#[110, 110, 110, 109]⟩, .str ⟨#[110, 99, 109]⟩, .str ⟨#[110]⟩]) = some false := id rfl
theorem id_forget : idxD (.dct [.inr ⟨#[99, 111, 109, 101]⟩, .inr ⟨#[98, 114, 105, 110, 103]⟩, .inr ⟨#[103, 105, 118, 101]⟩, .inr ⟨#[104, 97, 110, 100]⟩, .inr ⟨#[102, 111, 114, 103, 101, 116]⟩, .inr ⟨#[103, 111]⟩] [.str ⟨#[110]⟩, .str ⟨#[110, 110, 109]⟩, .str ⟨#[110, 110, 109]⟩, .str ⟨#[110, 110, 110, 109]⟩, .str ⟨#[110, 99, 109]⟩, .str ⟨#[110]⟩]) (.str ⟨#[102, 111, 114, 103, 101, 116]⟩) = some (.str ⟨#[110, 99, 109]⟩) := id rfl
theorem nl_forget : cmpD .NotIn (.str ⟨#[102, 111, 114, 103, 101, 116]⟩) (.lst [.str ⟨#[103, 105, 118, 101]⟩, .str ⟨#[104, 97, 110, 100]⟩, .str ⟨#[102, 111, 114, 103, 101, 116]⟩]) = some false := id rfl
theorem nd_go : cmpD .NotIn (.str ⟨#[103, 111]⟩) (.dct [.inr ⟨#[99, 111, 109, 101]⟩, .inr ⟨#[98, 114, 105, 110, 103]⟩, .inr ⟨#[103, 105, 118, 101]⟩, .inr ⟨#[104, 97, 110, 100]⟩, .inr ⟨#[102, 111, 114, 103, 101, 116]⟩, .inr ⟨#[103, 111]⟩] [.str ⟨#[110]⟩, .str ⟨#[110, 110, 109]⟩, .str ⟨#[110, 110, 109]⟩, .str ⟨#[110, 110, 110, 109]⟩, .str ⟨#[110, 99, 109]⟩, .str ⟨#[110]⟩]) = some false := id rfl
theorem id_go : idxD (.dct [.inr ⟨#[99, 111, 109, 101]⟩, .inr ⟨#[98, 114, 105, 110, 103]⟩, .inr ⟨#[103, 105, 118, 101]⟩, .inr ⟨#[104, 97, 110, 100]⟩, .inr ⟨#[102, 111, 114, 103, 101, 116]⟩, .inr ⟨#[103, 111]⟩] [.str ⟨#[110]⟩, .str ⟨#[110, 110, 109]⟩, .str ⟨#[110, 110, 109]⟩, .str ⟨#[110, 110, 110, 109]⟩, .str ⟨#[110, 99, 109]⟩, .str ⟨#[110]⟩]) (.str ⟨#[103, 111]⟩) = some (.str ⟨#[110]⟩) := id rfl
theorem nl_go : cmpD .NotIn (.str ⟨#[103, 111]⟩) (.lst [.str ⟨#[103, 105, 118, 101]⟩, .str ⟨#[104, 97, 110, 100]⟩, .str ⟨#[102, 111, 114, 103, 101, 116]⟩]) = some true := id rfl
theorem nd_no (w : Str) (h0 : w ≠ comeS) (h1 : w ≠ bringS) (h2 : w ≠ giveS) (h3 : w ≠ handS) (h4 : w ≠ forgetS) (h5 : w ≠ goS) : cmpD .NotIn (.str w) (.dct [.inr ⟨#[99, 111, 109, 101]⟩, .inr ⟨#[98, 114, 105, 110, 103]⟩, .inr ⟨#[103, 105, 118, 101]⟩, .inr ⟨#[104, 97, 110, 100]⟩, .inr ⟨#[102, 111, 114, 103, 101, 116]⟩, .inr ⟨#[103, 111]⟩] [.str ⟨#[110]⟩, .str ⟨#[110, 110, 109]⟩, .str ⟨#[110, 110, 109]⟩, .str ⟨#[110, 110, 110, 109]⟩, .str ⟨#[110, 99, 109]⟩, .str ⟨#[110]⟩]) = some true := by
  have q : (([Sum.inr ⟨#[99, 111, 109, 101]⟩, Sum.inr ⟨#[98, 114, 105, 110, 103]⟩, Sum.inr ⟨#[103, 105, 118, 101]⟩, Sum.inr ⟨#[104, 97, 110, 100]⟩, Sum.inr ⟨#[102, 111, 114, 103, 101, 116]⟩, Sum.inr ⟨#[103, 111]⟩] : List Key).any fun j => decide (j = Sum.inr w)) = false := by
    rw [List.any_eq_false]
    intro x hx
    simp only [List.mem_cons, List.not_mem_nil, or_false] at hx
    rw [decide_eq_true_eq]
    rintro rfl
    rcases hx with h | h | h | h | h | h <;> injection h with h
    · exact h0 h
    · exact h1 h
    · exact h2 h
    · exact h3 h
    · exact h4 h
    · exact h5 h
  show notO (some _) = some true
  rw [q]
  rfl
theorem ad_n : binD .Add (.int 1) (.int (Str.length ⟨#[110]⟩ : Int)) = some (.int 2) := id rfl
theorem ad_nnm : binD .Add (.int 1) (.int (Str.length ⟨#[110, 110, 109]⟩ : Int)) = some (.int 4) := id rfl
theorem ad_nnnm : binD .Add (.int 1) (.int (Str.length ⟨#[110, 110, 110, 109]⟩ : Int)) = some (.int 5) := id rfl
theorem ad_ncm : binD .Add (.int 1) (.int (Str.length ⟨#[110, 99, 109]⟩ : Int)) = some (.int 4) := id rfl
theorem sl_1 (x a : D) : slcD (.tup [x, a]) (some 1) none = some (.tup [a]) := id rfl
theorem sl_3 (x a b c : D) : slcD (.tup [x, a, b, c]) (some 1) none = some (.tup [a, b, c]) := id rfl
theorem sl_4 (x a b c d : D) : slcD (.tup [x, a, b, c, d]) (some 1) none = some (.tup [a, b, c, d]) := id rfl
theorem eq_e (xs : List D) (h : dep (.tup xs) ≤ 64) : cmpD .Eq (.tup xs) (.tup []) = some xs.isEmpty := by
  show eqO _ _ = _
  unfold eqO
  rw [if_pos ⟨h, by decide⟩]
  cases xs <;> rfl
theorem it1 (x y : D) (xs : List D) : idxD (.tup (x :: y :: xs)) (.int 1) = some y := atI_nat (j := 1) (xs := x :: y :: xs) rfl
theorem it2 (x y z : D) (xs : List D) : idxD (.tup (x :: y :: z :: xs)) (.int 2) = some z := atI_nat (j := 2) (xs := x :: y :: z :: xs) rfl
theorem nn_m : (⟨#[110]⟩ == (⟨#[109]⟩ : Str)) = false := id rfl
theorem nn_c : (⟨#[110]⟩ == (⟨#[99]⟩ : Str)) = false := id rfl
theorem mm_m : (⟨#[109]⟩ == (⟨#[109]⟩ : Str)) = true := id rfl
theorem cc_m : (⟨#[99]⟩ == (⟨#[109]⟩ : Str)) = false := id rfl
theorem cc_c : (⟨#[99]⟩ == (⟨#[99]⟩ : Str)) = true := id rfl
section
variable {t : Tbl} (T : Sub TC t) (L : Sub TL05 t) (k : Nat) {st : Sto}
include T L
theorem b30_n (x0 x1 x2 : Option Vv) (a : D) : evSs (Fn t (k + 1)) I30b1 [x0, x1, x2, some (.d a), some (.d (.str ⟨#[110]⟩))] st = if nameD a = true then .nx [x0, x1, x2, some (.d a), some (.d (.str ⟨#[110]⟩))] st else .rt (.d (.bl false)) st := by
  simp only [I30b1, List.map_cons, List.map_nil, List.length_cons, List.length_nil, List.replicate, List.cons_append, List.nil_append, List.append_nil, Nat.reduceAdd, Nat.reduceSub, Nat.zero_add,
      e_var, e_con, e_bin, k_bin1, k_bin2, e_neg, k_neg, e_not, k_not, e_and, k_and, e_or, k_or, e_cmp, k_cmp1, k_cmp2, e_chain, k_ch1, k_ch2, e_ite, k_ite, e_call, k_call1, k_call2, e_blt, k_blt, e_meth, k_meth1, k_meth2, e_tup, e_lst, e_dct0, e_dcd, e_idx, k_idx1, k_idx2, e_slc, k_slc1, k_slc2, k_slc3, o_none, o_some, k_o, e_new, k_new, e_lc, k_lc, lc_g, es_nil, es_cons, k_es1, k_es2, t_nil, t_cons, k_t, i_val, i_range, i_enum, k_ent, k_enl, enumD, s_par, k_par, setAll, k_body, k_turn, k_ivl, k_ivt, k_ivs,
      g_name, g_tup, g_sub, k_sub1, gs_nil, gs_cons, k_gs, s_asg, k_asg1, k_nx, s_expr, k_expr, s_ret, k_ret, s_iff, k_if, s_for, k_for, s_aug, s_pass, ss_nil, ss_cons, k_ss, bind_ok, bind_exc, bind_stuck, go_ok, go_exc, seq_nx, seq_rt, seq_exc, turn_nx, turn_rt, turn_exc, calm_ok', end_d, end_nx, end_exc, tru_bl, give, give_b, ders, der, arrD, List.getElem?_cons_zero, List.getElem?_cons_succ, List.set_cons_zero, List.set_cons_succ, if_true, if_false, Bool.false_eq_true, Bool.not_true, Bool.not_false, List.take_length,
      e_isi, k_isi, e_tin, k_tinP, k_tinN, e_tget, k_tget, g_star, i_zip, is_int_non, is_int_bl, is_int_int, is_int_str, is_int_tup, is_int_lst, is_int_dct, is_str_non, is_str_bl, is_str_int, is_str_str, is_str_tup, is_str_lst, is_str_dct, is_bool_non, is_bool_bl, is_bool_int, is_bool_str, is_bool_tup, is_bool_lst, is_bool_dct, is_tuple_non, is_tuple_bl, is_tuple_int, is_tuple_str, is_tuple_tup, is_tuple_lst, is_tuple_dct, is_list_non, is_list_bl, is_list_int, is_list_str, is_list_tup, is_list_lst, is_list_dct, is_dict_non, is_dict_bl, is_dict_int, is_dict_str, is_dict_tup, is_dict_lst, is_dict_dct,
      bfD, len_s, len_l, len_t, c_eq_ii, c_ne_ii, c_lt_ii, c_le_ii, c_gt_ii, c_ge_ii, c_is_non, c_isn_non, noneD, Int.cast_ofNat_Int, Int.reduceEq, Int.reduceLT, Int.reduceLE, decide_true, decide_false, kTup, kLst, pures, sizeLine_eq, Nat.reduceLeDiff, g_tupq, idx_q0, idx_q1, is_tuple_q, len_q, k_ivq, c_eq_ss, nn_m, nn_c, law_name_ok T L k]
  cases nameD a <;> simp only [List.map_cons, List.map_nil, List.length_cons, List.length_nil, List.replicate, List.cons_append, List.nil_append, List.append_nil, Nat.reduceAdd, Nat.reduceSub, Nat.zero_add,
      e_var, e_con, e_bin, k_bin1, k_bin2, e_neg, k_neg, e_not, k_not, e_and, k_and, e_or, k_or, e_cmp, k_cmp1, k_cmp2, e_chain, k_ch1, k_ch2, e_ite, k_ite, e_call, k_call1, k_call2, e_blt, k_blt, e_meth, k_meth1, k_meth2, e_tup, e_lst, e_dct0, e_dcd, e_idx, k_idx1, k_idx2, e_slc, k_slc1, k_slc2, k_slc3, o_none, o_some, k_o, e_new, k_new, e_lc, k_lc, lc_g, es_nil, es_cons, k_es1, k_es2, t_nil, t_cons, k_t, i_val, i_range, i_enum, k_ent, k_enl, enumD, s_par, k_par, setAll, k_body, k_turn, k_ivl, k_ivt, k_ivs,
      g_name, g_tup, g_sub, k_sub1, gs_nil, gs_cons, k_gs, s_asg, k_asg1, k_nx, s_expr, k_expr, s_ret, k_ret, s_iff, k_if, s_for, k_for, s_aug, s_pass, ss_nil, ss_cons, k_ss, bind_ok, bind_exc, bind_stuck, go_ok, go_exc, seq_nx, seq_rt, seq_exc, turn_nx, turn_rt, turn_exc, calm_ok', end_d, end_nx, end_exc, tru_bl, give, give_b, ders, der, arrD, List.getElem?_cons_zero, List.getElem?_cons_succ, List.set_cons_zero, List.set_cons_succ, if_true, if_false, Bool.false_eq_true, Bool.not_true, Bool.not_false, List.take_length,
      e_isi, k_isi, e_tin, k_tinP, k_tinN, e_tget, k_tget, g_star, i_zip, is_int_non, is_int_bl, is_int_int, is_int_str, is_int_tup, is_int_lst, is_int_dct, is_str_non, is_str_bl, is_str_int, is_str_str, is_str_tup, is_str_lst, is_str_dct, is_bool_non, is_bool_bl, is_bool_int, is_bool_str, is_bool_tup, is_bool_lst, is_bool_dct, is_tuple_non, is_tuple_bl, is_tuple_int, is_tuple_str, is_tuple_tup, is_tuple_lst, is_tuple_dct, is_list_non, is_list_bl, is_list_int, is_list_str, is_list_tup, is_list_lst, is_list_dct, is_dict_non, is_dict_bl, is_dict_int, is_dict_str, is_dict_tup, is_dict_lst, is_dict_dct,
      bfD, len_s, len_l, len_t, c_eq_ii, c_ne_ii, c_lt_ii, c_le_ii, c_gt_ii, c_ge_ii, c_is_non, c_isn_non, noneD, Int.cast_ofNat_Int, Int.reduceEq, Int.reduceLT, Int.reduceLE, decide_true, decide_false, kTup, kLst, pures, sizeLine_eq, Nat.reduceLeDiff, g_tupq, idx_q0, idx_q1, is_tuple_q, len_q, k_ivq, c_eq_ss, nn_c]
theorem b30_c (x0 x1 x2 : Option Vv) (a : D) : evSs (Fn t (k + 1)) I30b1 [x0, x1, x2, some (.d a), some (.d (.str ⟨#[99]⟩))] st = if (chestD a || nameD a) = true then .nx [x0, x1, x2, some (.d a), some (.d (.str ⟨#[99]⟩))] st else .rt (.d (.bl false)) st := by
  simp only [I30b1, List.map_cons, List.map_nil, List.length_cons, List.length_nil, List.replicate, List.cons_append, List.nil_append, List.append_nil, Nat.reduceAdd, Nat.reduceSub, Nat.zero_add,
      e_var, e_con, e_bin, k_bin1, k_bin2, e_neg, k_neg, e_not, k_not, e_and, k_and, e_or, k_or, e_cmp, k_cmp1, k_cmp2, e_chain, k_ch1, k_ch2, e_ite, k_ite, e_call, k_call1, k_call2, e_blt, k_blt, e_meth, k_meth1, k_meth2, e_tup, e_lst, e_dct0, e_dcd, e_idx, k_idx1, k_idx2, e_slc, k_slc1, k_slc2, k_slc3, o_none, o_some, k_o, e_new, k_new, e_lc, k_lc, lc_g, es_nil, es_cons, k_es1, k_es2, t_nil, t_cons, k_t, i_val, i_range, i_enum, k_ent, k_enl, enumD, s_par, k_par, setAll, k_body, k_turn, k_ivl, k_ivt, k_ivs,
      g_name, g_tup, g_sub, k_sub1, gs_nil, gs_cons, k_gs, s_asg, k_asg1, k_nx, s_expr, k_expr, s_ret, k_ret, s_iff, k_if, s_for, k_for, s_aug, s_pass, ss_nil, ss_cons, k_ss, bind_ok, bind_exc, bind_stuck, go_ok, go_exc, seq_nx, seq_rt, seq_exc, turn_nx, turn_rt, turn_exc, calm_ok', end_d, end_nx, end_exc, tru_bl, give, give_b, ders, der, arrD, List.getElem?_cons_zero, List.getElem?_cons_succ, List.set_cons_zero, List.set_cons_succ, if_true, if_false, Bool.false_eq_true, Bool.not_true, Bool.not_false, List.take_length,
      e_isi, k_isi, e_tin, k_tinP, k_tinN, e_tget, k_tget, g_star, i_zip, is_int_non, is_int_bl, is_int_int, is_int_str, is_int_tup, is_int_lst, is_int_dct, is_str_non, is_str_bl, is_str_int, is_str_str, is_str_tup, is_str_lst, is_str_dct, is_bool_non, is_bool_bl, is_bool_int, is_bool_str, is_bool_tup, is_bool_lst, is_bool_dct, is_tuple_non, is_tuple_bl, is_tuple_int, is_tuple_str, is_tuple_tup, is_tuple_lst, is_tuple_dct, is_list_non, is_list_bl, is_list_int, is_list_str, is_list_tup, is_list_lst, is_list_dct, is_dict_non, is_dict_bl, is_dict_int, is_dict_str, is_dict_tup, is_dict_lst, is_dict_dct,
      bfD, len_s, len_l, len_t, c_eq_ii, c_ne_ii, c_lt_ii, c_le_ii, c_gt_ii, c_ge_ii, c_is_non, c_isn_non, noneD, Int.cast_ofNat_Int, Int.reduceEq, Int.reduceLT, Int.reduceLE, decide_true, decide_false, kTup, kLst, pures, sizeLine_eq, Nat.reduceLeDiff, g_tupq, idx_q0, idx_q1, is_tuple_q, len_q, k_ivq, c_eq_ss, cc_m, cc_c, law_name_ok T L k]
  cases nameD a <;> simp only [List.map_cons, List.map_nil, List.length_cons, List.length_nil, List.replicate, List.cons_append, List.nil_append, List.append_nil, Nat.reduceAdd, Nat.reduceSub, Nat.zero_add,
      e_var, e_con, e_bin, k_bin1, k_bin2, e_neg, k_neg, e_not, k_not, e_and, k_and, e_or, k_or, e_cmp, k_cmp1, k_cmp2, e_chain, k_ch1, k_ch2, e_ite, k_ite, e_call, k_call1, k_call2, e_blt, k_blt, e_meth, k_meth1, k_meth2, e_tup, e_lst, e_dct0, e_dcd, e_idx, k_idx1, k_idx2, e_slc, k_slc1, k_slc2, k_slc3, o_none, o_some, k_o, e_new, k_new, e_lc, k_lc, lc_g, es_nil, es_cons, k_es1, k_es2, t_nil, t_cons, k_t, i_val, i_range, i_enum, k_ent, k_enl, enumD, s_par, k_par, setAll, k_body, k_turn, k_ivl, k_ivt, k_ivs,
      g_name, g_tup, g_sub, k_sub1, gs_nil, gs_cons, k_gs, s_asg, k_asg1, k_nx, s_expr, k_expr, s_ret, k_ret, s_iff, k_if, s_for, k_for, s_aug, s_pass, ss_nil, ss_cons, k_ss, bind_ok, bind_exc, bind_stuck, go_ok, go_exc, seq_nx, seq_rt, seq_exc, turn_nx, turn_rt, turn_exc, calm_ok', end_d, end_nx, end_exc, tru_bl, give, give_b, ders, der, arrD, List.getElem?_cons_zero, List.getElem?_cons_succ, List.set_cons_zero, List.set_cons_succ, if_true, if_false, Bool.false_eq_true, Bool.not_true, Bool.not_false, List.take_length,
      e_isi, k_isi, e_tin, k_tinP, k_tinN, e_tget, k_tget, g_star, i_zip, is_int_non, is_int_bl, is_int_int, is_int_str, is_int_tup, is_int_lst, is_int_dct, is_str_non, is_str_bl, is_str_int, is_str_str, is_str_tup, is_str_lst, is_str_dct, is_bool_non, is_bool_bl, is_bool_int, is_bool_str, is_bool_tup, is_bool_lst, is_bool_dct, is_tuple_non, is_tuple_bl, is_tuple_int, is_tuple_str, is_tuple_tup, is_tuple_lst, is_tuple_dct, is_list_non, is_list_bl, is_list_int, is_list_str, is_list_tup, is_list_lst, is_list_dct, is_dict_non, is_dict_bl, is_dict_int, is_dict_str, is_dict_tup, is_dict_lst, is_dict_dct,
      bfD, len_s, len_l, len_t, c_eq_ii, c_ne_ii, c_lt_ii, c_le_ii, c_gt_ii, c_ge_ii, c_is_non, c_isn_non, noneD, Int.cast_ofNat_Int, Int.reduceEq, Int.reduceLT, Int.reduceLE, decide_true, decide_false, kTup, kLst, pures, sizeLine_eq, Nat.reduceLeDiff, g_tupq, idx_q0, idx_q1, is_tuple_q, len_q, k_ivq, c_eq_ss, cc_c, Bool.or_true, Bool.or_false]
  cases a with
  | str s =>
    have hc : chestD (.str s) = (s == ⟨#[99, 104, 101, 115, 116]⟩) := rfl
    cases h4 : (s == (⟨#[99, 104, 101, 115, 116]⟩ : Str)) with
    | true => rw [h4] at hc; simp only [List.map_cons, List.map_nil, List.length_cons, List.length_nil, List.replicate, List.cons_append, List.nil_append, List.append_nil, Nat.reduceAdd, Nat.reduceSub, Nat.zero_add,
      e_var, e_con, e_bin, k_bin1, k_bin2, e_neg, k_neg, e_not, k_not, e_and, k_and, e_or, k_or, e_cmp, k_cmp1, k_cmp2, e_chain, k_ch1, k_ch2, e_ite, k_ite, e_call, k_call1, k_call2, e_blt, k_blt, e_meth, k_meth1, k_meth2, e_tup, e_lst, e_dct0, e_dcd, e_idx, k_idx1, k_idx2, e_slc, k_slc1, k_slc2, k_slc3, o_none, o_some, k_o, e_new, k_new, e_lc, k_lc, lc_g, es_nil, es_cons, k_es1, k_es2, t_nil, t_cons, k_t, i_val, i_range, i_enum, k_ent, k_enl, enumD, s_par, k_par, setAll, k_body, k_turn, k_ivl, k_ivt, k_ivs,
      g_name, g_tup, g_sub, k_sub1, gs_nil, gs_cons, k_gs, s_asg, k_asg1, k_nx, s_expr, k_expr, s_ret, k_ret, s_iff, k_if, s_for, k_for, s_aug, s_pass, ss_nil, ss_cons, k_ss, bind_ok, bind_exc, bind_stuck, go_ok, go_exc, seq_nx, seq_rt, seq_exc, turn_nx, turn_rt, turn_exc, calm_ok', end_d, end_nx, end_exc, tru_bl, give, give_b, ders, der, arrD, List.getElem?_cons_zero, List.getElem?_cons_succ, List.set_cons_zero, List.set_cons_succ, if_true, if_false, Bool.false_eq_true, Bool.not_true, Bool.not_false, List.take_length,
      e_isi, k_isi, e_tin, k_tinP, k_tinN, e_tget, k_tget, g_star, i_zip, is_int_non, is_int_bl, is_int_int, is_int_str, is_int_tup, is_int_lst, is_int_dct, is_str_non, is_str_bl, is_str_int, is_str_str, is_str_tup, is_str_lst, is_str_dct, is_bool_non, is_bool_bl, is_bool_int, is_bool_str, is_bool_tup, is_bool_lst, is_bool_dct, is_tuple_non, is_tuple_bl, is_tuple_int, is_tuple_str, is_tuple_tup, is_tuple_lst, is_tuple_dct, is_list_non, is_list_bl, is_list_int, is_list_str, is_list_tup, is_list_lst, is_list_dct, is_dict_non, is_dict_bl, is_dict_int, is_dict_str, is_dict_tup, is_dict_lst, is_dict_dct,
      bfD, len_s, len_l, len_t, c_eq_ii, c_ne_ii, c_lt_ii, c_le_ii, c_gt_ii, c_ge_ii, c_is_non, c_isn_non, noneD, Int.cast_ofNat_Int, Int.reduceEq, Int.reduceLT, Int.reduceLE, decide_true, decide_false, kTup, kLst, pures, sizeLine_eq, Nat.reduceLeDiff, g_tupq, idx_q0, idx_q1, is_tuple_q, len_q, k_ivq, c_eq_ss, h4, hc]
    | false => rw [h4] at hc; simp only [List.map_cons, List.map_nil, List.length_cons, List.length_nil, List.replicate, List.cons_append, List.nil_append, List.append_nil, Nat.reduceAdd, Nat.reduceSub, Nat.zero_add,
      e_var, e_con, e_bin, k_bin1, k_bin2, e_neg, k_neg, e_not, k_not, e_and, k_and, e_or, k_or, e_cmp, k_cmp1, k_cmp2, e_chain, k_ch1, k_ch2, e_ite, k_ite, e_call, k_call1, k_call2, e_blt, k_blt, e_meth, k_meth1, k_meth2, e_tup, e_lst, e_dct0, e_dcd, e_idx, k_idx1, k_idx2, e_slc, k_slc1, k_slc2, k_slc3, o_none, o_some, k_o, e_new, k_new, e_lc, k_lc, lc_g, es_nil, es_cons, k_es1, k_es2, t_nil, t_cons, k_t, i_val, i_range, i_enum, k_ent, k_enl, enumD, s_par, k_par, setAll, k_body, k_turn, k_ivl, k_ivt, k_ivs,
      g_name, g_tup, g_sub, k_sub1, gs_nil, gs_cons, k_gs, s_asg, k_asg1, k_nx, s_expr, k_expr, s_ret, k_ret, s_iff, k_if, s_for, k_for, s_aug, s_pass, ss_nil, ss_cons, k_ss, bind_ok, bind_exc, bind_stuck, go_ok, go_exc, seq_nx, seq_rt, seq_exc, turn_nx, turn_rt, turn_exc, calm_ok', end_d, end_nx, end_exc, tru_bl, give, give_b, ders, der, arrD, List.getElem?_cons_zero, List.getElem?_cons_succ, List.set_cons_zero, List.set_cons_succ, if_true, if_false, Bool.false_eq_true, Bool.not_true, Bool.not_false, List.take_length,
      e_isi, k_isi, e_tin, k_tinP, k_tinN, e_tget, k_tget, g_star, i_zip, is_int_non, is_int_bl, is_int_int, is_int_str, is_int_tup, is_int_lst, is_int_dct, is_str_non, is_str_bl, is_str_int, is_str_str, is_str_tup, is_str_lst, is_str_dct, is_bool_non, is_bool_bl, is_bool_int, is_bool_str, is_bool_tup, is_bool_lst, is_bool_dct, is_tuple_non, is_tuple_bl, is_tuple_int, is_tuple_str, is_tuple_tup, is_tuple_lst, is_tuple_dct, is_list_non, is_list_bl, is_list_int, is_list_str, is_list_tup, is_list_lst, is_list_dct, is_dict_non, is_dict_bl, is_dict_int, is_dict_str, is_dict_tup, is_dict_lst, is_dict_dct,
      bfD, len_s, len_l, len_t, c_eq_ii, c_ne_ii, c_lt_ii, c_le_ii, c_gt_ii, c_ge_ii, c_is_non, c_isn_non, noneD, Int.cast_ofNat_Int, Int.reduceEq, Int.reduceLT, Int.reduceLE, decide_true, decide_false, kTup, kLst, pures, sizeLine_eq, Nat.reduceLeDiff, g_tupq, idx_q0, idx_q1, is_tuple_q, len_q, k_ivq, c_eq_ss, h4, hc]
  | _ => simp only [List.map_cons, List.map_nil, List.length_cons, List.length_nil, List.replicate, List.cons_append, List.nil_append, List.append_nil, Nat.reduceAdd, Nat.reduceSub, Nat.zero_add,
      e_var, e_con, e_bin, k_bin1, k_bin2, e_neg, k_neg, e_not, k_not, e_and, k_and, e_or, k_or, e_cmp, k_cmp1, k_cmp2, e_chain, k_ch1, k_ch2, e_ite, k_ite, e_call, k_call1, k_call2, e_blt, k_blt, e_meth, k_meth1, k_meth2, e_tup, e_lst, e_dct0, e_dcd, e_idx, k_idx1, k_idx2, e_slc, k_slc1, k_slc2, k_slc3, o_none, o_some, k_o, e_new, k_new, e_lc, k_lc, lc_g, es_nil, es_cons, k_es1, k_es2, t_nil, t_cons, k_t, i_val, i_range, i_enum, k_ent, k_enl, enumD, s_par, k_par, setAll, k_body, k_turn, k_ivl, k_ivt, k_ivs,
      g_name, g_tup, g_sub, k_sub1, gs_nil, gs_cons, k_gs, s_asg, k_asg1, k_nx, s_expr, k_expr, s_ret, k_ret, s_iff, k_if, s_for, k_for, s_aug, s_pass, ss_nil, ss_cons, k_ss, bind_ok, bind_exc, bind_stuck, go_ok, go_exc, seq_nx, seq_rt, seq_exc, turn_nx, turn_rt, turn_exc, calm_ok', end_d, end_nx, end_exc, tru_bl, give, give_b, ders, der, arrD, List.getElem?_cons_zero, List.getElem?_cons_succ, List.set_cons_zero, List.set_cons_succ, if_true, if_false, Bool.false_eq_true, Bool.not_true, Bool.not_false, List.take_length,
      e_isi, k_isi, e_tin, k_tinP, k_tinN, e_tget, k_tget, g_star, i_zip, is_int_non, is_int_bl, is_int_int, is_int_str, is_int_tup, is_int_lst, is_int_dct, is_str_non, is_str_bl, is_str_int, is_str_str, is_str_tup, is_str_lst, is_str_dct, is_bool_non, is_bool_bl, is_bool_int, is_bool_str, is_bool_tup, is_bool_lst, is_bool_dct, is_tuple_non, is_tuple_bl, is_tuple_int, is_tuple_str, is_tuple_tup, is_tuple_lst, is_tuple_dct, is_list_non, is_list_bl, is_list_int, is_list_str, is_list_tup, is_list_lst, is_list_dct, is_dict_non, is_dict_bl, is_dict_int, is_dict_str, is_dict_tup, is_dict_lst, is_dict_dct,
      bfD, len_s, len_l, len_t, c_eq_ii, c_ne_ii, c_lt_ii, c_le_ii, c_gt_ii, c_ge_ii, c_is_non, c_isn_non, noneD, Int.cast_ofNat_Int, Int.reduceEq, Int.reduceLT, Int.reduceLE, decide_true, decide_false, kTup, kLst, pures, sizeLine_eq, Nat.reduceLeDiff, g_tupq, idx_q0, idx_q1, is_tuple_q, len_q, k_ivq, chestD]
theorem b30_m (x0 x1 x2 : Option Vv) (a : D) : evSs (Fn t (k + 1)) I30b1 [x0, x1, x2, some (.d a), some (.d (.str ⟨#[109]⟩))] st = if wholeD a 1 9999 = true then .nx [x0, x1, x2, some (.d a), some (.d (.str ⟨#[109]⟩))] st else .rt (.d (.bl false)) st := by
  simp only [I30b1, List.map_cons, List.map_nil, List.length_cons, List.length_nil, List.replicate, List.cons_append, List.nil_append, List.append_nil, Nat.reduceAdd, Nat.reduceSub, Nat.zero_add,
      e_var, e_con, e_bin, k_bin1, k_bin2, e_neg, k_neg, e_not, k_not, e_and, k_and, e_or, k_or, e_cmp, k_cmp1, k_cmp2, e_chain, k_ch1, k_ch2, e_ite, k_ite, e_call, k_call1, k_call2, e_blt, k_blt, e_meth, k_meth1, k_meth2, e_tup, e_lst, e_dct0, e_dcd, e_idx, k_idx1, k_idx2, e_slc, k_slc1, k_slc2, k_slc3, o_none, o_some, k_o, e_new, k_new, e_lc, k_lc, lc_g, es_nil, es_cons, k_es1, k_es2, t_nil, t_cons, k_t, i_val, i_range, i_enum, k_ent, k_enl, enumD, s_par, k_par, setAll, k_body, k_turn, k_ivl, k_ivt, k_ivs,
      g_name, g_tup, g_sub, k_sub1, gs_nil, gs_cons, k_gs, s_asg, k_asg1, k_nx, s_expr, k_expr, s_ret, k_ret, s_iff, k_if, s_for, k_for, s_aug, s_pass, ss_nil, ss_cons, k_ss, bind_ok, bind_exc, bind_stuck, go_ok, go_exc, seq_nx, seq_rt, seq_exc, turn_nx, turn_rt, turn_exc, calm_ok', end_d, end_nx, end_exc, tru_bl, give, give_b, ders, der, arrD, List.getElem?_cons_zero, List.getElem?_cons_succ, List.set_cons_zero, List.set_cons_succ, if_true, if_false, Bool.false_eq_true, Bool.not_true, Bool.not_false, List.take_length,
      e_isi, k_isi, e_tin, k_tinP, k_tinN, e_tget, k_tget, g_star, i_zip, is_int_non, is_int_bl, is_int_int, is_int_str, is_int_tup, is_int_lst, is_int_dct, is_str_non, is_str_bl, is_str_int, is_str_str, is_str_tup, is_str_lst, is_str_dct, is_bool_non, is_bool_bl, is_bool_int, is_bool_str, is_bool_tup, is_bool_lst, is_bool_dct, is_tuple_non, is_tuple_bl, is_tuple_int, is_tuple_str, is_tuple_tup, is_tuple_lst, is_tuple_dct, is_list_non, is_list_bl, is_list_int, is_list_str, is_list_tup, is_list_lst, is_list_dct, is_dict_non, is_dict_bl, is_dict_int, is_dict_str, is_dict_tup, is_dict_lst, is_dict_dct,
      bfD, len_s, len_l, len_t, c_eq_ii, c_ne_ii, c_lt_ii, c_le_ii, c_gt_ii, c_ge_ii, c_is_non, c_isn_non, noneD, Int.cast_ofNat_Int, Int.reduceEq, Int.reduceLT, Int.reduceLE, decide_true, decide_false, kTup, kLst, pures, sizeLine_eq, Nat.reduceLeDiff, g_tupq, idx_q0, idx_q1, is_tuple_q, len_q, k_ivq, c_eq_ss, mm_m]
  cases a with
  | int i =>
    have g1 : decide ((1 : Int) ≤ i) = decide ((0 : Int) < i) := decide_eq_decide.mpr (by omega)
    have g2 : decide (i ≤ (9999 : Int)) = decide (i < 10000) := decide_eq_decide.mpr (by omega)
    have hw : wholeD (.int i) 1 9999 = (decide ((0 : Int) < i) && decide (i < 10000)) := by rw [← g1, ← g2]; rfl
    cases h1 : decide ((0 : Int) < i) <;> rw [h1] at hw
    · simp only [List.map_cons, List.map_nil, List.length_cons, List.length_nil, List.replicate, List.cons_append, List.nil_append, List.append_nil, Nat.reduceAdd, Nat.reduceSub, Nat.zero_add,
      e_var, e_con, e_bin, k_bin1, k_bin2, e_neg, k_neg, e_not, k_not, e_and, k_and, e_or, k_or, e_cmp, k_cmp1, k_cmp2, e_chain, k_ch1, k_ch2, e_ite, k_ite, e_call, k_call1, k_call2, e_blt, k_blt, e_meth, k_meth1, k_meth2, e_tup, e_lst, e_dct0, e_dcd, e_idx, k_idx1, k_idx2, e_slc, k_slc1, k_slc2, k_slc3, o_none, o_some, k_o, e_new, k_new, e_lc, k_lc, lc_g, es_nil, es_cons, k_es1, k_es2, t_nil, t_cons, k_t, i_val, i_range, i_enum, k_ent, k_enl, enumD, s_par, k_par, setAll, k_body, k_turn, k_ivl, k_ivt, k_ivs,
      g_name, g_tup, g_sub, k_sub1, gs_nil, gs_cons, k_gs, s_asg, k_asg1, k_nx, s_expr, k_expr, s_ret, k_ret, s_iff, k_if, s_for, k_for, s_aug, s_pass, ss_nil, ss_cons, k_ss, bind_ok, bind_exc, bind_stuck, go_ok, go_exc, seq_nx, seq_rt, seq_exc, turn_nx, turn_rt, turn_exc, calm_ok', end_d, end_nx, end_exc, tru_bl, give, give_b, ders, der, arrD, List.getElem?_cons_zero, List.getElem?_cons_succ, List.set_cons_zero, List.set_cons_succ, if_true, if_false, Bool.false_eq_true, Bool.not_true, Bool.not_false, List.take_length,
      e_isi, k_isi, e_tin, k_tinP, k_tinN, e_tget, k_tget, g_star, i_zip, is_int_non, is_int_bl, is_int_int, is_int_str, is_int_tup, is_int_lst, is_int_dct, is_str_non, is_str_bl, is_str_int, is_str_str, is_str_tup, is_str_lst, is_str_dct, is_bool_non, is_bool_bl, is_bool_int, is_bool_str, is_bool_tup, is_bool_lst, is_bool_dct, is_tuple_non, is_tuple_bl, is_tuple_int, is_tuple_str, is_tuple_tup, is_tuple_lst, is_tuple_dct, is_list_non, is_list_bl, is_list_int, is_list_str, is_list_tup, is_list_lst, is_list_dct, is_dict_non, is_dict_bl, is_dict_int, is_dict_str, is_dict_tup, is_dict_lst, is_dict_dct,
      bfD, len_s, len_l, len_t, c_eq_ii, c_ne_ii, c_lt_ii, c_le_ii, c_gt_ii, c_ge_ii, c_is_non, c_isn_non, noneD, Int.cast_ofNat_Int, Int.reduceEq, Int.reduceLT, Int.reduceLE, decide_true, decide_false, kTup, kLst, pures, sizeLine_eq, Nat.reduceLeDiff, g_tupq, idx_q0, idx_q1, is_tuple_q, len_q, k_ivq, Bool.false_and, h1, hw]
    cases h2 : decide (i < (10000 : Int)) <;> rw [h2] at hw <;> simp only [List.map_cons, List.map_nil, List.length_cons, List.length_nil, List.replicate, List.cons_append, List.nil_append, List.append_nil, Nat.reduceAdd, Nat.reduceSub, Nat.zero_add,
      e_var, e_con, e_bin, k_bin1, k_bin2, e_neg, k_neg, e_not, k_not, e_and, k_and, e_or, k_or, e_cmp, k_cmp1, k_cmp2, e_chain, k_ch1, k_ch2, e_ite, k_ite, e_call, k_call1, k_call2, e_blt, k_blt, e_meth, k_meth1, k_meth2, e_tup, e_lst, e_dct0, e_dcd, e_idx, k_idx1, k_idx2, e_slc, k_slc1, k_slc2, k_slc3, o_none, o_some, k_o, e_new, k_new, e_lc, k_lc, lc_g, es_nil, es_cons, k_es1, k_es2, t_nil, t_cons, k_t, i_val, i_range, i_enum, k_ent, k_enl, enumD, s_par, k_par, setAll, k_body, k_turn, k_ivl, k_ivt, k_ivs,
      g_name, g_tup, g_sub, k_sub1, gs_nil, gs_cons, k_gs, s_asg, k_asg1, k_nx, s_expr, k_expr, s_ret, k_ret, s_iff, k_if, s_for, k_for, s_aug, s_pass, ss_nil, ss_cons, k_ss, bind_ok, bind_exc, bind_stuck, go_ok, go_exc, seq_nx, seq_rt, seq_exc, turn_nx, turn_rt, turn_exc, calm_ok', end_d, end_nx, end_exc, tru_bl, give, give_b, ders, der, arrD, List.getElem?_cons_zero, List.getElem?_cons_succ, List.set_cons_zero, List.set_cons_succ, if_true, if_false, Bool.false_eq_true, Bool.not_true, Bool.not_false, List.take_length,
      e_isi, k_isi, e_tin, k_tinP, k_tinN, e_tget, k_tget, g_star, i_zip, is_int_non, is_int_bl, is_int_int, is_int_str, is_int_tup, is_int_lst, is_int_dct, is_str_non, is_str_bl, is_str_int, is_str_str, is_str_tup, is_str_lst, is_str_dct, is_bool_non, is_bool_bl, is_bool_int, is_bool_str, is_bool_tup, is_bool_lst, is_bool_dct, is_tuple_non, is_tuple_bl, is_tuple_int, is_tuple_str, is_tuple_tup, is_tuple_lst, is_tuple_dct, is_list_non, is_list_bl, is_list_int, is_list_str, is_list_tup, is_list_lst, is_list_dct, is_dict_non, is_dict_bl, is_dict_int, is_dict_str, is_dict_tup, is_dict_lst, is_dict_dct,
      bfD, len_s, len_l, len_t, c_eq_ii, c_ne_ii, c_lt_ii, c_le_ii, c_gt_ii, c_ge_ii, c_is_non, c_isn_non, noneD, Int.cast_ofNat_Int, Int.reduceEq, Int.reduceLT, Int.reduceLE, decide_true, decide_false, kTup, kLst, pures, sizeLine_eq, Nat.reduceLeDiff, g_tupq, idx_q0, idx_q1, is_tuple_q, len_q, k_ivq, Bool.true_and, h1, h2, hw]
  | _ => simp only [List.map_cons, List.map_nil, List.length_cons, List.length_nil, List.replicate, List.cons_append, List.nil_append, List.append_nil, Nat.reduceAdd, Nat.reduceSub, Nat.zero_add,
      e_var, e_con, e_bin, k_bin1, k_bin2, e_neg, k_neg, e_not, k_not, e_and, k_and, e_or, k_or, e_cmp, k_cmp1, k_cmp2, e_chain, k_ch1, k_ch2, e_ite, k_ite, e_call, k_call1, k_call2, e_blt, k_blt, e_meth, k_meth1, k_meth2, e_tup, e_lst, e_dct0, e_dcd, e_idx, k_idx1, k_idx2, e_slc, k_slc1, k_slc2, k_slc3, o_none, o_some, k_o, e_new, k_new, e_lc, k_lc, lc_g, es_nil, es_cons, k_es1, k_es2, t_nil, t_cons, k_t, i_val, i_range, i_enum, k_ent, k_enl, enumD, s_par, k_par, setAll, k_body, k_turn, k_ivl, k_ivt, k_ivs,
      g_name, g_tup, g_sub, k_sub1, gs_nil, gs_cons, k_gs, s_asg, k_asg1, k_nx, s_expr, k_expr, s_ret, k_ret, s_iff, k_if, s_for, k_for, s_aug, s_pass, ss_nil, ss_cons, k_ss, bind_ok, bind_exc, bind_stuck, go_ok, go_exc, seq_nx, seq_rt, seq_exc, turn_nx, turn_rt, turn_exc, calm_ok', end_d, end_nx, end_exc, tru_bl, give, give_b, ders, der, arrD, List.getElem?_cons_zero, List.getElem?_cons_succ, List.set_cons_zero, List.set_cons_succ, if_true, if_false, Bool.false_eq_true, Bool.not_true, Bool.not_false, List.take_length,
      e_isi, k_isi, e_tin, k_tinP, k_tinN, e_tget, k_tget, g_star, i_zip, is_int_non, is_int_bl, is_int_int, is_int_str, is_int_tup, is_int_lst, is_int_dct, is_str_non, is_str_bl, is_str_int, is_str_str, is_str_tup, is_str_lst, is_str_dct, is_bool_non, is_bool_bl, is_bool_int, is_bool_str, is_bool_tup, is_bool_lst, is_bool_dct, is_tuple_non, is_tuple_bl, is_tuple_int, is_tuple_str, is_tuple_tup, is_tuple_lst, is_tuple_dct, is_list_non, is_list_bl, is_list_int, is_list_str, is_list_tup, is_list_lst, is_list_dct, is_dict_non, is_dict_bl, is_dict_int, is_dict_str, is_dict_tup, is_dict_lst, is_dict_dct,
      bfD, len_s, len_l, len_t, c_eq_ii, c_ne_ii, c_lt_ii, c_le_ii, c_gt_ii, c_ge_ii, c_is_non, c_isn_non, noneD, Int.cast_ofNat_Int, Int.reduceEq, Int.reduceLT, Int.reduceLE, decide_true, decide_false, kTup, kLst, pures, sizeLine_eq, Nat.reduceLeDiff, g_tupq, idx_q0, idx_q1, is_tuple_q, len_q, k_ivq, wholeD]
theorem law_deed_ok (x : D) (hx : ∀ xs, x = .tup xs → dep x ≤ 64) : Fn t (k + 2) 30 [.d x] st = .ok (.d (.bl (deedD x))) st := by
  rw [fn_at L rfl]
  simp only [runF, startE, I30, List.map_cons, List.map_nil, List.length_cons, List.length_nil, List.replicate, List.cons_append, List.nil_append, List.append_nil, Nat.reduceAdd, Nat.reduceSub, Nat.zero_add,
      e_var, e_con, e_bin, k_bin1, k_bin2, e_neg, k_neg, e_not, k_not, e_and, k_and, e_or, k_or, e_cmp, k_cmp1, k_cmp2, e_chain, k_ch1, k_ch2, e_ite, k_ite, e_call, k_call1, k_call2, e_blt, k_blt, e_meth, k_meth1, k_meth2, e_tup, e_lst, e_dct0, e_dcd, e_idx, k_idx1, k_idx2, e_slc, k_slc1, k_slc2, k_slc3, o_none, o_some, k_o, e_new, k_new, e_lc, k_lc, lc_g, es_nil, es_cons, k_es1, k_es2, t_nil, t_cons, k_t, i_val, i_range, i_enum, k_ent, k_enl, enumD, s_par, k_par, setAll, k_body, k_turn, k_ivl, k_ivt, k_ivs,
      g_name, g_tup, g_sub, k_sub1, gs_nil, gs_cons, k_gs, s_asg, k_asg1, k_nx, s_expr, k_expr, s_ret, k_ret, s_iff, k_if, s_for, k_for, s_aug, s_pass, ss_nil, ss_cons, k_ss, bind_ok, bind_exc, bind_stuck, go_ok, go_exc, seq_nx, seq_rt, seq_exc, turn_nx, turn_rt, turn_exc, calm_ok', end_d, end_nx, end_exc, tru_bl, give, give_b, ders, der, arrD, List.getElem?_cons_zero, List.getElem?_cons_succ, List.set_cons_zero, List.set_cons_succ, if_true, if_false, Bool.false_eq_true, Bool.not_true, Bool.not_false, List.take_length,
      e_isi, k_isi, e_tin, k_tinP, k_tinN, e_tget, k_tget, g_star, i_zip, is_int_non, is_int_bl, is_int_int, is_int_str, is_int_tup, is_int_lst, is_int_dct, is_str_non, is_str_bl, is_str_int, is_str_str, is_str_tup, is_str_lst, is_str_dct, is_bool_non, is_bool_bl, is_bool_int, is_bool_str, is_bool_tup, is_bool_lst, is_bool_dct, is_tuple_non, is_tuple_bl, is_tuple_int, is_tuple_str, is_tuple_tup, is_tuple_lst, is_tuple_dct, is_list_non, is_list_bl, is_list_int, is_list_str, is_list_tup, is_list_lst, is_list_dct, is_dict_non, is_dict_bl, is_dict_int, is_dict_str, is_dict_tup, is_dict_lst, is_dict_dct,
      bfD, len_s, len_l, len_t, c_eq_ii, c_ne_ii, c_lt_ii, c_le_ii, c_gt_ii, c_ge_ii, c_is_non, c_isn_non, noneD, Int.cast_ofNat_Int, Int.reduceEq, Int.reduceLT, Int.reduceLE, decide_true, decide_false, kTup, kLst, pures, sizeLine_eq, Nat.reduceLeDiff, g_tupq, idx_q0, idx_q1, is_tuple_q, len_q, k_ivq, dcd_forms]
  cases x with
  | tup xs =>
    have hx := hx xs rfl
    simp only [List.map_cons, List.map_nil, List.length_cons, List.length_nil, List.replicate, List.cons_append, List.nil_append, List.append_nil, Nat.reduceAdd, Nat.reduceSub, Nat.zero_add,
      e_var, e_con, e_bin, k_bin1, k_bin2, e_neg, k_neg, e_not, k_not, e_and, k_and, e_or, k_or, e_cmp, k_cmp1, k_cmp2, e_chain, k_ch1, k_ch2, e_ite, k_ite, e_call, k_call1, k_call2, e_blt, k_blt, e_meth, k_meth1, k_meth2, e_tup, e_lst, e_dct0, e_dcd, e_idx, k_idx1, k_idx2, e_slc, k_slc1, k_slc2, k_slc3, o_none, o_some, k_o, e_new, k_new, e_lc, k_lc, lc_g, es_nil, es_cons, k_es1, k_es2, t_nil, t_cons, k_t, i_val, i_range, i_enum, k_ent, k_enl, enumD, s_par, k_par, setAll, k_body, k_turn, k_ivl, k_ivt, k_ivs,
      g_name, g_tup, g_sub, k_sub1, gs_nil, gs_cons, k_gs, s_asg, k_asg1, k_nx, s_expr, k_expr, s_ret, k_ret, s_iff, k_if, s_for, k_for, s_aug, s_pass, ss_nil, ss_cons, k_ss, bind_ok, bind_exc, bind_stuck, go_ok, go_exc, seq_nx, seq_rt, seq_exc, turn_nx, turn_rt, turn_exc, calm_ok', end_d, end_nx, end_exc, tru_bl, give, give_b, ders, der, arrD, List.getElem?_cons_zero, List.getElem?_cons_succ, List.set_cons_zero, List.set_cons_succ, if_true, if_false, Bool.false_eq_true, Bool.not_true, Bool.not_false, List.take_length,
      e_isi, k_isi, e_tin, k_tinP, k_tinN, e_tget, k_tget, g_star, i_zip, is_int_non, is_int_bl, is_int_int, is_int_str, is_int_tup, is_int_lst, is_int_dct, is_str_non, is_str_bl, is_str_int, is_str_str, is_str_tup, is_str_lst, is_str_dct, is_bool_non, is_bool_bl, is_bool_int, is_bool_str, is_bool_tup, is_bool_lst, is_bool_dct, is_tuple_non, is_tuple_bl, is_tuple_int, is_tuple_str, is_tuple_tup, is_tuple_lst, is_tuple_dct, is_list_non, is_list_bl, is_list_int, is_list_str, is_list_tup, is_list_lst, is_list_dct, is_dict_non, is_dict_bl, is_dict_int, is_dict_str, is_dict_tup, is_dict_lst, is_dict_dct,
      bfD, len_s, len_l, len_t, c_eq_ii, c_ne_ii, c_lt_ii, c_le_ii, c_gt_ii, c_ge_ii, c_is_non, c_isn_non, noneD, Int.cast_ofNat_Int, Int.reduceEq, Int.reduceLT, Int.reduceLE, decide_true, decide_false, kTup, kLst, pures, sizeLine_eq, Nat.reduceLeDiff, g_tupq, idx_q0, idx_q1, is_tuple_q, len_q, k_ivq, eq_e xs hx]
    cases xs with
    | nil => simp only [List.map_cons, List.map_nil, List.length_cons, List.length_nil, List.replicate, List.cons_append, List.nil_append, List.append_nil, Nat.reduceAdd, Nat.reduceSub, Nat.zero_add,
      e_var, e_con, e_bin, k_bin1, k_bin2, e_neg, k_neg, e_not, k_not, e_and, k_and, e_or, k_or, e_cmp, k_cmp1, k_cmp2, e_chain, k_ch1, k_ch2, e_ite, k_ite, e_call, k_call1, k_call2, e_blt, k_blt, e_meth, k_meth1, k_meth2, e_tup, e_lst, e_dct0, e_dcd, e_idx, k_idx1, k_idx2, e_slc, k_slc1, k_slc2, k_slc3, o_none, o_some, k_o, e_new, k_new, e_lc, k_lc, lc_g, es_nil, es_cons, k_es1, k_es2, t_nil, t_cons, k_t, i_val, i_range, i_enum, k_ent, k_enl, enumD, s_par, k_par, setAll, k_body, k_turn, k_ivl, k_ivt, k_ivs,
      g_name, g_tup, g_sub, k_sub1, gs_nil, gs_cons, k_gs, s_asg, k_asg1, k_nx, s_expr, k_expr, s_ret, k_ret, s_iff, k_if, s_for, k_for, s_aug, s_pass, ss_nil, ss_cons, k_ss, bind_ok, bind_exc, bind_stuck, go_ok, go_exc, seq_nx, seq_rt, seq_exc, turn_nx, turn_rt, turn_exc, calm_ok', end_d, end_nx, end_exc, tru_bl, give, give_b, ders, der, arrD, List.getElem?_cons_zero, List.getElem?_cons_succ, List.set_cons_zero, List.set_cons_succ, if_true, if_false, Bool.false_eq_true, Bool.not_true, Bool.not_false, List.take_length,
      e_isi, k_isi, e_tin, k_tinP, k_tinN, e_tget, k_tget, g_star, i_zip, is_int_non, is_int_bl, is_int_int, is_int_str, is_int_tup, is_int_lst, is_int_dct, is_str_non, is_str_bl, is_str_int, is_str_str, is_str_tup, is_str_lst, is_str_dct, is_bool_non, is_bool_bl, is_bool_int, is_bool_str, is_bool_tup, is_bool_lst, is_bool_dct, is_tuple_non, is_tuple_bl, is_tuple_int, is_tuple_str, is_tuple_tup, is_tuple_lst, is_tuple_dct, is_list_non, is_list_bl, is_list_int, is_list_str, is_list_tup, is_list_lst, is_list_dct, is_dict_non, is_dict_bl, is_dict_int, is_dict_str, is_dict_tup, is_dict_lst, is_dict_dct,
      bfD, len_s, len_l, len_t, c_eq_ii, c_ne_ii, c_lt_ii, c_le_ii, c_gt_ii, c_ge_ii, c_is_non, c_isn_non, noneD, Int.cast_ofNat_Int, Int.reduceEq, Int.reduceLT, Int.reduceLE, decide_true, decide_false, kTup, kLst, pures, sizeLine_eq, Nat.reduceLeDiff, g_tupq, idx_q0, idx_q1, is_tuple_q, len_q, k_ivq, List.isEmpty_nil, deedD]
    | cons y ys =>
      simp only [List.map_cons, List.map_nil, List.length_cons, List.length_nil, List.replicate, List.cons_append, List.nil_append, List.append_nil, Nat.reduceAdd, Nat.reduceSub, Nat.zero_add,
      e_var, e_con, e_bin, k_bin1, k_bin2, e_neg, k_neg, e_not, k_not, e_and, k_and, e_or, k_or, e_cmp, k_cmp1, k_cmp2, e_chain, k_ch1, k_ch2, e_ite, k_ite, e_call, k_call1, k_call2, e_blt, k_blt, e_meth, k_meth1, k_meth2, e_tup, e_lst, e_dct0, e_dcd, e_idx, k_idx1, k_idx2, e_slc, k_slc1, k_slc2, k_slc3, o_none, o_some, k_o, e_new, k_new, e_lc, k_lc, lc_g, es_nil, es_cons, k_es1, k_es2, t_nil, t_cons, k_t, i_val, i_range, i_enum, k_ent, k_enl, enumD, s_par, k_par, setAll, k_body, k_turn, k_ivl, k_ivt, k_ivs,
      g_name, g_tup, g_sub, k_sub1, gs_nil, gs_cons, k_gs, s_asg, k_asg1, k_nx, s_expr, k_expr, s_ret, k_ret, s_iff, k_if, s_for, k_for, s_aug, s_pass, ss_nil, ss_cons, k_ss, bind_ok, bind_exc, bind_stuck, go_ok, go_exc, seq_nx, seq_rt, seq_exc, turn_nx, turn_rt, turn_exc, calm_ok', end_d, end_nx, end_exc, tru_bl, give, give_b, ders, der, arrD, List.getElem?_cons_zero, List.getElem?_cons_succ, List.set_cons_zero, List.set_cons_succ, if_true, if_false, Bool.false_eq_true, Bool.not_true, Bool.not_false, List.take_length,
      e_isi, k_isi, e_tin, k_tinP, k_tinN, e_tget, k_tget, g_star, i_zip, is_int_non, is_int_bl, is_int_int, is_int_str, is_int_tup, is_int_lst, is_int_dct, is_str_non, is_str_bl, is_str_int, is_str_str, is_str_tup, is_str_lst, is_str_dct, is_bool_non, is_bool_bl, is_bool_int, is_bool_str, is_bool_tup, is_bool_lst, is_bool_dct, is_tuple_non, is_tuple_bl, is_tuple_int, is_tuple_str, is_tuple_tup, is_tuple_lst, is_tuple_dct, is_list_non, is_list_bl, is_list_int, is_list_str, is_list_tup, is_list_lst, is_list_dct, is_dict_non, is_dict_bl, is_dict_int, is_dict_str, is_dict_tup, is_dict_lst, is_dict_dct,
      bfD, len_s, len_l, len_t, c_eq_ii, c_ne_ii, c_lt_ii, c_le_ii, c_gt_ii, c_ge_ii, c_is_non, c_isn_non, noneD, Int.cast_ofNat_Int, Int.reduceEq, Int.reduceLT, Int.reduceLE, decide_true, decide_false, kTup, kLst, pures, sizeLine_eq, Nat.reduceLeDiff, g_tupq, idx_q0, idx_q1, is_tuple_q, len_q, k_ivq, List.isEmpty_cons, ix0]
      cases y with
      | str w =>
        by_cases w0 : w = comeS
        · have hw : w = ⟨#[99, 111, 109, 101]⟩ := w0
          subst hw
          clear w0
          by_cases hn : ys.length = 1
          · obtain ⟨a, rfl⟩ : ∃ a, ys = [a] := by
              match ys, hn with
              | [a], _ => exact ⟨_, rfl⟩
            simp only [List.map_cons, List.map_nil, List.length_cons, List.length_nil, List.replicate, List.cons_append, List.nil_append, List.append_nil, Nat.reduceAdd, Nat.reduceSub, Nat.zero_add,
      e_var, e_con, e_bin, k_bin1, k_bin2, e_neg, k_neg, e_not, k_not, e_and, k_and, e_or, k_or, e_cmp, k_cmp1, k_cmp2, e_chain, k_ch1, k_ch2, e_ite, k_ite, e_call, k_call1, k_call2, e_blt, k_blt, e_meth, k_meth1, k_meth2, e_tup, e_lst, e_dct0, e_dcd, e_idx, k_idx1, k_idx2, e_slc, k_slc1, k_slc2, k_slc3, o_none, o_some, k_o, e_new, k_new, e_lc, k_lc, lc_g, es_nil, es_cons, k_es1, k_es2, t_nil, t_cons, k_t, i_val, i_range, i_enum, k_ent, k_enl, enumD, s_par, k_par, setAll, k_body, k_turn, k_ivl, k_ivt, k_ivs,
      g_name, g_tup, g_sub, k_sub1, gs_nil, gs_cons, k_gs, s_asg, k_asg1, k_nx, s_expr, k_expr, s_ret, k_ret, s_iff, k_if, s_for, k_for, s_aug, s_pass, ss_nil, ss_cons, k_ss, bind_ok, bind_exc, bind_stuck, go_ok, go_exc, seq_nx, seq_rt, seq_exc, turn_nx, turn_rt, turn_exc, calm_ok', end_d, end_nx, end_exc, tru_bl, give, give_b, ders, der, arrD, List.getElem?_cons_zero, List.getElem?_cons_succ, List.set_cons_zero, List.set_cons_succ, if_true, if_false, Bool.false_eq_true, Bool.not_true, Bool.not_false, List.take_length,
      e_isi, k_isi, e_tin, k_tinP, k_tinN, e_tget, k_tget, g_star, i_zip, is_int_non, is_int_bl, is_int_int, is_int_str, is_int_tup, is_int_lst, is_int_dct, is_str_non, is_str_bl, is_str_int, is_str_str, is_str_tup, is_str_lst, is_str_dct, is_bool_non, is_bool_bl, is_bool_int, is_bool_str, is_bool_tup, is_bool_lst, is_bool_dct, is_tuple_non, is_tuple_bl, is_tuple_int, is_tuple_str, is_tuple_tup, is_tuple_lst, is_tuple_dct, is_list_non, is_list_bl, is_list_int, is_list_str, is_list_tup, is_list_lst, is_list_dct, is_dict_non, is_dict_bl, is_dict_int, is_dict_str, is_dict_tup, is_dict_lst, is_dict_dct,
      bfD, len_s, len_l, len_t, c_eq_ii, c_ne_ii, c_lt_ii, c_le_ii, c_gt_ii, c_ge_ii, c_is_non, c_isn_non, noneD, Int.cast_ofNat_Int, Int.reduceEq, Int.reduceLT, Int.reduceLE, decide_true, decide_false, kTup, kLst, pures, sizeLine_eq, Nat.reduceLeDiff, g_tupq, idx_q0, idx_q1, is_tuple_q, len_q, k_ivq, ix0, nd_come, id_come, ad_n, sl_1, zip_ts, zipD, for_cons, lc_g, b30_n T L k, dd_come]
            cases g0 : nameD a <;> simp only [List.map_cons, List.map_nil, List.length_cons, List.length_nil, List.replicate, List.cons_append, List.nil_append, List.append_nil, Nat.reduceAdd, Nat.reduceSub, Nat.zero_add,
      e_var, e_con, e_bin, k_bin1, k_bin2, e_neg, k_neg, e_not, k_not, e_and, k_and, e_or, k_or, e_cmp, k_cmp1, k_cmp2, e_chain, k_ch1, k_ch2, e_ite, k_ite, e_call, k_call1, k_call2, e_blt, k_blt, e_meth, k_meth1, k_meth2, e_tup, e_lst, e_dct0, e_dcd, e_idx, k_idx1, k_idx2, e_slc, k_slc1, k_slc2, k_slc3, o_none, o_some, k_o, e_new, k_new, e_lc, k_lc, lc_g, es_nil, es_cons, k_es1, k_es2, t_nil, t_cons, k_t, i_val, i_range, i_enum, k_ent, k_enl, enumD, s_par, k_par, setAll, k_body, k_turn, k_ivl, k_ivt, k_ivs,
      g_name, g_tup, g_sub, k_sub1, gs_nil, gs_cons, k_gs, s_asg, k_asg1, k_nx, s_expr, k_expr, s_ret, k_ret, s_iff, k_if, s_for, k_for, s_aug, s_pass, ss_nil, ss_cons, k_ss, bind_ok, bind_exc, bind_stuck, go_ok, go_exc, seq_nx, seq_rt, seq_exc, turn_nx, turn_rt, turn_exc, calm_ok', end_d, end_nx, end_exc, tru_bl, give, give_b, ders, der, arrD, List.getElem?_cons_zero, List.getElem?_cons_succ, List.set_cons_zero, List.set_cons_succ, if_true, if_false, Bool.false_eq_true, Bool.not_true, Bool.not_false, List.take_length,
      e_isi, k_isi, e_tin, k_tinP, k_tinN, e_tget, k_tget, g_star, i_zip, is_int_non, is_int_bl, is_int_int, is_int_str, is_int_tup, is_int_lst, is_int_dct, is_str_non, is_str_bl, is_str_int, is_str_str, is_str_tup, is_str_lst, is_str_dct, is_bool_non, is_bool_bl, is_bool_int, is_bool_str, is_bool_tup, is_bool_lst, is_bool_dct, is_tuple_non, is_tuple_bl, is_tuple_int, is_tuple_str, is_tuple_tup, is_tuple_lst, is_tuple_dct, is_list_non, is_list_bl, is_list_int, is_list_str, is_list_tup, is_list_lst, is_list_dct, is_dict_non, is_dict_bl, is_dict_int, is_dict_str, is_dict_tup, is_dict_lst, is_dict_dct,
      bfD, len_s, len_l, len_t, c_eq_ii, c_ne_ii, c_lt_ii, c_le_ii, c_gt_ii, c_ge_ii, c_is_non, c_isn_non, noneD, Int.cast_ofNat_Int, Int.reduceEq, Int.reduceLT, Int.reduceLE, decide_true, decide_false, kTup, kLst, pures, sizeLine_eq, Nat.reduceLeDiff, g_tupq, idx_q0, idx_q1, is_tuple_q, len_q, k_ivq, for_cons, for_nil, lc_g, b30_n T L k, b30_m T L k, b30_c T L k, g0, ix0, Bool.true_and, Bool.and_true, Bool.false_and, Bool.and_false, nl_come]
          · have hd : decide (((D.str ⟨#[99, 111, 109, 101]⟩ :: ys).length : Int) = 2) = false := by rw [decide_eq_false_iff_not, List.length_cons]; omega
            simp only [List.length_cons] at hd
            simp only [List.map_cons, List.map_nil, List.length_cons, List.length_nil, List.replicate, List.cons_append, List.nil_append, List.append_nil, Nat.reduceAdd, Nat.reduceSub, Nat.zero_add,
      e_var, e_con, e_bin, k_bin1, k_bin2, e_neg, k_neg, e_not, k_not, e_and, k_and, e_or, k_or, e_cmp, k_cmp1, k_cmp2, e_chain, k_ch1, k_ch2, e_ite, k_ite, e_call, k_call1, k_call2, e_blt, k_blt, e_meth, k_meth1, k_meth2, e_tup, e_lst, e_dct0, e_dcd, e_idx, k_idx1, k_idx2, e_slc, k_slc1, k_slc2, k_slc3, o_none, o_some, k_o, e_new, k_new, e_lc, k_lc, lc_g, es_nil, es_cons, k_es1, k_es2, t_nil, t_cons, k_t, i_val, i_range, i_enum, k_ent, k_enl, enumD, s_par, k_par, setAll, k_body, k_turn, k_ivl, k_ivt, k_ivs,
      g_name, g_tup, g_sub, k_sub1, gs_nil, gs_cons, k_gs, s_asg, k_asg1, k_nx, s_expr, k_expr, s_ret, k_ret, s_iff, k_if, s_for, k_for, s_aug, s_pass, ss_nil, ss_cons, k_ss, bind_ok, bind_exc, bind_stuck, go_ok, go_exc, seq_nx, seq_rt, seq_exc, turn_nx, turn_rt, turn_exc, calm_ok', end_d, end_nx, end_exc, tru_bl, give, give_b, ders, der, arrD, List.getElem?_cons_zero, List.getElem?_cons_succ, List.set_cons_zero, List.set_cons_succ, if_true, if_false, Bool.false_eq_true, Bool.not_true, Bool.not_false, List.take_length,
      e_isi, k_isi, e_tin, k_tinP, k_tinN, e_tget, k_tget, g_star, i_zip, is_int_non, is_int_bl, is_int_int, is_int_str, is_int_tup, is_int_lst, is_int_dct, is_str_non, is_str_bl, is_str_int, is_str_str, is_str_tup, is_str_lst, is_str_dct, is_bool_non, is_bool_bl, is_bool_int, is_bool_str, is_bool_tup, is_bool_lst, is_bool_dct, is_tuple_non, is_tuple_bl, is_tuple_int, is_tuple_str, is_tuple_tup, is_tuple_lst, is_tuple_dct, is_list_non, is_list_bl, is_list_int, is_list_str, is_list_tup, is_list_lst, is_list_dct, is_dict_non, is_dict_bl, is_dict_int, is_dict_str, is_dict_tup, is_dict_lst, is_dict_dct,
      bfD, len_s, len_l, len_t, c_eq_ii, c_ne_ii, c_lt_ii, c_le_ii, c_gt_ii, c_ge_ii, c_is_non, c_isn_non, noneD, Int.cast_ofNat_Int, Int.reduceEq, Int.reduceLT, Int.reduceLE, decide_true, decide_false, kTup, kLst, pures, sizeLine_eq, Nat.reduceLeDiff, g_tupq, idx_q0, idx_q1, is_tuple_q, len_q, k_ivq, ix0, nd_come, id_come, ad_n, hd]
            rcases ys with _ | ⟨a, _ | ⟨b, _ | ⟨c, _ | ⟨d, _ | ⟨e, r⟩⟩⟩⟩⟩ <;> first | rfl | exact absurd rfl hn
        by_cases w1 : w = bringS
        · have hw : w = ⟨#[98, 114, 105, 110, 103]⟩ := w1
          subst hw
          clear w0 w1
          by_cases hn : ys.length = 3
          · obtain ⟨a, b, c, rfl⟩ : ∃ a b c, ys = [a, b, c] := by
              match ys, hn with
              | [a, b, c], _ => exact ⟨_, _, _, rfl⟩
            simp only [List.map_cons, List.map_nil, List.length_cons, List.length_nil, List.replicate, List.cons_append, List.nil_append, List.append_nil, Nat.reduceAdd, Nat.reduceSub, Nat.zero_add,
      e_var, e_con, e_bin, k_bin1, k_bin2, e_neg, k_neg, e_not, k_not, e_and, k_and, e_or, k_or, e_cmp, k_cmp1, k_cmp2, e_chain, k_ch1, k_ch2, e_ite, k_ite, e_call, k_call1, k_call2, e_blt, k_blt, e_meth, k_meth1, k_meth2, e_tup, e_lst, e_dct0, e_dcd, e_idx, k_idx1, k_idx2, e_slc, k_slc1, k_slc2, k_slc3, o_none, o_some, k_o, e_new, k_new, e_lc, k_lc, lc_g, es_nil, es_cons, k_es1, k_es2, t_nil, t_cons, k_t, i_val, i_range, i_enum, k_ent, k_enl, enumD, s_par, k_par, setAll, k_body, k_turn, k_ivl, k_ivt, k_ivs,
      g_name, g_tup, g_sub, k_sub1, gs_nil, gs_cons, k_gs, s_asg, k_asg1, k_nx, s_expr, k_expr, s_ret, k_ret, s_iff, k_if, s_for, k_for, s_aug, s_pass, ss_nil, ss_cons, k_ss, bind_ok, bind_exc, bind_stuck, go_ok, go_exc, seq_nx, seq_rt, seq_exc, turn_nx, turn_rt, turn_exc, calm_ok', end_d, end_nx, end_exc, tru_bl, give, give_b, ders, der, arrD, List.getElem?_cons_zero, List.getElem?_cons_succ, List.set_cons_zero, List.set_cons_succ, if_true, if_false, Bool.false_eq_true, Bool.not_true, Bool.not_false, List.take_length,
      e_isi, k_isi, e_tin, k_tinP, k_tinN, e_tget, k_tget, g_star, i_zip, is_int_non, is_int_bl, is_int_int, is_int_str, is_int_tup, is_int_lst, is_int_dct, is_str_non, is_str_bl, is_str_int, is_str_str, is_str_tup, is_str_lst, is_str_dct, is_bool_non, is_bool_bl, is_bool_int, is_bool_str, is_bool_tup, is_bool_lst, is_bool_dct, is_tuple_non, is_tuple_bl, is_tuple_int, is_tuple_str, is_tuple_tup, is_tuple_lst, is_tuple_dct, is_list_non, is_list_bl, is_list_int, is_list_str, is_list_tup, is_list_lst, is_list_dct, is_dict_non, is_dict_bl, is_dict_int, is_dict_str, is_dict_tup, is_dict_lst, is_dict_dct,
      bfD, len_s, len_l, len_t, c_eq_ii, c_ne_ii, c_lt_ii, c_le_ii, c_gt_ii, c_ge_ii, c_is_non, c_isn_non, noneD, Int.cast_ofNat_Int, Int.reduceEq, Int.reduceLT, Int.reduceLE, decide_true, decide_false, kTup, kLst, pures, sizeLine_eq, Nat.reduceLeDiff, g_tupq, idx_q0, idx_q1, is_tuple_q, len_q, k_ivq, ix0, nd_bring, id_bring, ad_nnm, sl_3, zip_ts, zipD, for_cons, lc_g, b30_n T L k, dd_bring]
            cases g0 : nameD a <;> simp only [List.map_cons, List.map_nil, List.length_cons, List.length_nil, List.replicate, List.cons_append, List.nil_append, List.append_nil, Nat.reduceAdd, Nat.reduceSub, Nat.zero_add,
      e_var, e_con, e_bin, k_bin1, k_bin2, e_neg, k_neg, e_not, k_not, e_and, k_and, e_or, k_or, e_cmp, k_cmp1, k_cmp2, e_chain, k_ch1, k_ch2, e_ite, k_ite, e_call, k_call1, k_call2, e_blt, k_blt, e_meth, k_meth1, k_meth2, e_tup, e_lst, e_dct0, e_dcd, e_idx, k_idx1, k_idx2, e_slc, k_slc1, k_slc2, k_slc3, o_none, o_some, k_o, e_new, k_new, e_lc, k_lc, lc_g, es_nil, es_cons, k_es1, k_es2, t_nil, t_cons, k_t, i_val, i_range, i_enum, k_ent, k_enl, enumD, s_par, k_par, setAll, k_body, k_turn, k_ivl, k_ivt, k_ivs,
      g_name, g_tup, g_sub, k_sub1, gs_nil, gs_cons, k_gs, s_asg, k_asg1, k_nx, s_expr, k_expr, s_ret, k_ret, s_iff, k_if, s_for, k_for, s_aug, s_pass, ss_nil, ss_cons, k_ss, bind_ok, bind_exc, bind_stuck, go_ok, go_exc, seq_nx, seq_rt, seq_exc, turn_nx, turn_rt, turn_exc, calm_ok', end_d, end_nx, end_exc, tru_bl, give, give_b, ders, der, arrD, List.getElem?_cons_zero, List.getElem?_cons_succ, List.set_cons_zero, List.set_cons_succ, if_true, if_false, Bool.false_eq_true, Bool.not_true, Bool.not_false, List.take_length,
      e_isi, k_isi, e_tin, k_tinP, k_tinN, e_tget, k_tget, g_star, i_zip, is_int_non, is_int_bl, is_int_int, is_int_str, is_int_tup, is_int_lst, is_int_dct, is_str_non, is_str_bl, is_str_int, is_str_str, is_str_tup, is_str_lst, is_str_dct, is_bool_non, is_bool_bl, is_bool_int, is_bool_str, is_bool_tup, is_bool_lst, is_bool_dct, is_tuple_non, is_tuple_bl, is_tuple_int, is_tuple_str, is_tuple_tup, is_tuple_lst, is_tuple_dct, is_list_non, is_list_bl, is_list_int, is_list_str, is_list_tup, is_list_lst, is_list_dct, is_dict_non, is_dict_bl, is_dict_int, is_dict_str, is_dict_tup, is_dict_lst, is_dict_dct,
      bfD, len_s, len_l, len_t, c_eq_ii, c_ne_ii, c_lt_ii, c_le_ii, c_gt_ii, c_ge_ii, c_is_non, c_isn_non, noneD, Int.cast_ofNat_Int, Int.reduceEq, Int.reduceLT, Int.reduceLE, decide_true, decide_false, kTup, kLst, pures, sizeLine_eq, Nat.reduceLeDiff, g_tupq, idx_q0, idx_q1, is_tuple_q, len_q, k_ivq, for_cons, for_nil, lc_g, b30_n T L k, b30_m T L k, b30_c T L k, g0, ix0, Bool.true_and, Bool.and_true, Bool.false_and, Bool.and_false, nl_bring]
            cases g1 : nameD b <;> simp only [List.map_cons, List.map_nil, List.length_cons, List.length_nil, List.replicate, List.cons_append, List.nil_append, List.append_nil, Nat.reduceAdd, Nat.reduceSub, Nat.zero_add,
      e_var, e_con, e_bin, k_bin1, k_bin2, e_neg, k_neg, e_not, k_not, e_and, k_and, e_or, k_or, e_cmp, k_cmp1, k_cmp2, e_chain, k_ch1, k_ch2, e_ite, k_ite, e_call, k_call1, k_call2, e_blt, k_blt, e_meth, k_meth1, k_meth2, e_tup, e_lst, e_dct0, e_dcd, e_idx, k_idx1, k_idx2, e_slc, k_slc1, k_slc2, k_slc3, o_none, o_some, k_o, e_new, k_new, e_lc, k_lc, lc_g, es_nil, es_cons, k_es1, k_es2, t_nil, t_cons, k_t, i_val, i_range, i_enum, k_ent, k_enl, enumD, s_par, k_par, setAll, k_body, k_turn, k_ivl, k_ivt, k_ivs,
      g_name, g_tup, g_sub, k_sub1, gs_nil, gs_cons, k_gs, s_asg, k_asg1, k_nx, s_expr, k_expr, s_ret, k_ret, s_iff, k_if, s_for, k_for, s_aug, s_pass, ss_nil, ss_cons, k_ss, bind_ok, bind_exc, bind_stuck, go_ok, go_exc, seq_nx, seq_rt, seq_exc, turn_nx, turn_rt, turn_exc, calm_ok', end_d, end_nx, end_exc, tru_bl, give, give_b, ders, der, arrD, List.getElem?_cons_zero, List.getElem?_cons_succ, List.set_cons_zero, List.set_cons_succ, if_true, if_false, Bool.false_eq_true, Bool.not_true, Bool.not_false, List.take_length,
      e_isi, k_isi, e_tin, k_tinP, k_tinN, e_tget, k_tget, g_star, i_zip, is_int_non, is_int_bl, is_int_int, is_int_str, is_int_tup, is_int_lst, is_int_dct, is_str_non, is_str_bl, is_str_int, is_str_str, is_str_tup, is_str_lst, is_str_dct, is_bool_non, is_bool_bl, is_bool_int, is_bool_str, is_bool_tup, is_bool_lst, is_bool_dct, is_tuple_non, is_tuple_bl, is_tuple_int, is_tuple_str, is_tuple_tup, is_tuple_lst, is_tuple_dct, is_list_non, is_list_bl, is_list_int, is_list_str, is_list_tup, is_list_lst, is_list_dct, is_dict_non, is_dict_bl, is_dict_int, is_dict_str, is_dict_tup, is_dict_lst, is_dict_dct,
      bfD, len_s, len_l, len_t, c_eq_ii, c_ne_ii, c_lt_ii, c_le_ii, c_gt_ii, c_ge_ii, c_is_non, c_isn_non, noneD, Int.cast_ofNat_Int, Int.reduceEq, Int.reduceLT, Int.reduceLE, decide_true, decide_false, kTup, kLst, pures, sizeLine_eq, Nat.reduceLeDiff, g_tupq, idx_q0, idx_q1, is_tuple_q, len_q, k_ivq, for_cons, for_nil, lc_g, b30_n T L k, b30_m T L k, b30_c T L k, g1, ix0, Bool.true_and, Bool.and_true, Bool.false_and, Bool.and_false, nl_bring]
            cases g2 : wholeD c 1 9999 <;> simp only [List.map_cons, List.map_nil, List.length_cons, List.length_nil, List.replicate, List.cons_append, List.nil_append, List.append_nil, Nat.reduceAdd, Nat.reduceSub, Nat.zero_add,
      e_var, e_con, e_bin, k_bin1, k_bin2, e_neg, k_neg, e_not, k_not, e_and, k_and, e_or, k_or, e_cmp, k_cmp1, k_cmp2, e_chain, k_ch1, k_ch2, e_ite, k_ite, e_call, k_call1, k_call2, e_blt, k_blt, e_meth, k_meth1, k_meth2, e_tup, e_lst, e_dct0, e_dcd, e_idx, k_idx1, k_idx2, e_slc, k_slc1, k_slc2, k_slc3, o_none, o_some, k_o, e_new, k_new, e_lc, k_lc, lc_g, es_nil, es_cons, k_es1, k_es2, t_nil, t_cons, k_t, i_val, i_range, i_enum, k_ent, k_enl, enumD, s_par, k_par, setAll, k_body, k_turn, k_ivl, k_ivt, k_ivs,
      g_name, g_tup, g_sub, k_sub1, gs_nil, gs_cons, k_gs, s_asg, k_asg1, k_nx, s_expr, k_expr, s_ret, k_ret, s_iff, k_if, s_for, k_for, s_aug, s_pass, ss_nil, ss_cons, k_ss, bind_ok, bind_exc, bind_stuck, go_ok, go_exc, seq_nx, seq_rt, seq_exc, turn_nx, turn_rt, turn_exc, calm_ok', end_d, end_nx, end_exc, tru_bl, give, give_b, ders, der, arrD, List.getElem?_cons_zero, List.getElem?_cons_succ, List.set_cons_zero, List.set_cons_succ, if_true, if_false, Bool.false_eq_true, Bool.not_true, Bool.not_false, List.take_length,
      e_isi, k_isi, e_tin, k_tinP, k_tinN, e_tget, k_tget, g_star, i_zip, is_int_non, is_int_bl, is_int_int, is_int_str, is_int_tup, is_int_lst, is_int_dct, is_str_non, is_str_bl, is_str_int, is_str_str, is_str_tup, is_str_lst, is_str_dct, is_bool_non, is_bool_bl, is_bool_int, is_bool_str, is_bool_tup, is_bool_lst, is_bool_dct, is_tuple_non, is_tuple_bl, is_tuple_int, is_tuple_str, is_tuple_tup, is_tuple_lst, is_tuple_dct, is_list_non, is_list_bl, is_list_int, is_list_str, is_list_tup, is_list_lst, is_list_dct, is_dict_non, is_dict_bl, is_dict_int, is_dict_str, is_dict_tup, is_dict_lst, is_dict_dct,
      bfD, len_s, len_l, len_t, c_eq_ii, c_ne_ii, c_lt_ii, c_le_ii, c_gt_ii, c_ge_ii, c_is_non, c_isn_non, noneD, Int.cast_ofNat_Int, Int.reduceEq, Int.reduceLT, Int.reduceLE, decide_true, decide_false, kTup, kLst, pures, sizeLine_eq, Nat.reduceLeDiff, g_tupq, idx_q0, idx_q1, is_tuple_q, len_q, k_ivq, for_cons, for_nil, lc_g, b30_n T L k, b30_m T L k, b30_c T L k, g2, ix0, Bool.true_and, Bool.and_true, Bool.false_and, Bool.and_false, nl_bring]
          · have hd : decide (((D.str ⟨#[98, 114, 105, 110, 103]⟩ :: ys).length : Int) = 4) = false := by rw [decide_eq_false_iff_not, List.length_cons]; omega
            simp only [List.length_cons] at hd
            simp only [List.map_cons, List.map_nil, List.length_cons, List.length_nil, List.replicate, List.cons_append, List.nil_append, List.append_nil, Nat.reduceAdd, Nat.reduceSub, Nat.zero_add,
      e_var, e_con, e_bin, k_bin1, k_bin2, e_neg, k_neg, e_not, k_not, e_and, k_and, e_or, k_or, e_cmp, k_cmp1, k_cmp2, e_chain, k_ch1, k_ch2, e_ite, k_ite, e_call, k_call1, k_call2, e_blt, k_blt, e_meth, k_meth1, k_meth2, e_tup, e_lst, e_dct0, e_dcd, e_idx, k_idx1, k_idx2, e_slc, k_slc1, k_slc2, k_slc3, o_none, o_some, k_o, e_new, k_new, e_lc, k_lc, lc_g, es_nil, es_cons, k_es1, k_es2, t_nil, t_cons, k_t, i_val, i_range, i_enum, k_ent, k_enl, enumD, s_par, k_par, setAll, k_body, k_turn, k_ivl, k_ivt, k_ivs,
      g_name, g_tup, g_sub, k_sub1, gs_nil, gs_cons, k_gs, s_asg, k_asg1, k_nx, s_expr, k_expr, s_ret, k_ret, s_iff, k_if, s_for, k_for, s_aug, s_pass, ss_nil, ss_cons, k_ss, bind_ok, bind_exc, bind_stuck, go_ok, go_exc, seq_nx, seq_rt, seq_exc, turn_nx, turn_rt, turn_exc, calm_ok', end_d, end_nx, end_exc, tru_bl, give, give_b, ders, der, arrD, List.getElem?_cons_zero, List.getElem?_cons_succ, List.set_cons_zero, List.set_cons_succ, if_true, if_false, Bool.false_eq_true, Bool.not_true, Bool.not_false, List.take_length,
      e_isi, k_isi, e_tin, k_tinP, k_tinN, e_tget, k_tget, g_star, i_zip, is_int_non, is_int_bl, is_int_int, is_int_str, is_int_tup, is_int_lst, is_int_dct, is_str_non, is_str_bl, is_str_int, is_str_str, is_str_tup, is_str_lst, is_str_dct, is_bool_non, is_bool_bl, is_bool_int, is_bool_str, is_bool_tup, is_bool_lst, is_bool_dct, is_tuple_non, is_tuple_bl, is_tuple_int, is_tuple_str, is_tuple_tup, is_tuple_lst, is_tuple_dct, is_list_non, is_list_bl, is_list_int, is_list_str, is_list_tup, is_list_lst, is_list_dct, is_dict_non, is_dict_bl, is_dict_int, is_dict_str, is_dict_tup, is_dict_lst, is_dict_dct,
      bfD, len_s, len_l, len_t, c_eq_ii, c_ne_ii, c_lt_ii, c_le_ii, c_gt_ii, c_ge_ii, c_is_non, c_isn_non, noneD, Int.cast_ofNat_Int, Int.reduceEq, Int.reduceLT, Int.reduceLE, decide_true, decide_false, kTup, kLst, pures, sizeLine_eq, Nat.reduceLeDiff, g_tupq, idx_q0, idx_q1, is_tuple_q, len_q, k_ivq, ix0, nd_bring, id_bring, ad_nnm, hd]
            rcases ys with _ | ⟨a, _ | ⟨b, _ | ⟨c, _ | ⟨d, _ | ⟨e, r⟩⟩⟩⟩⟩ <;> first | rfl | exact absurd rfl hn
        by_cases w2 : w = giveS
        · have hw : w = ⟨#[103, 105, 118, 101]⟩ := w2
          subst hw
          clear w0 w1 w2
          by_cases hn : ys.length = 3
          · obtain ⟨a, b, c, rfl⟩ : ∃ a b c, ys = [a, b, c] := by
              match ys, hn with
              | [a, b, c], _ => exact ⟨_, _, _, rfl⟩
            simp only [List.map_cons, List.map_nil, List.length_cons, List.length_nil, List.replicate, List.cons_append, List.nil_append, List.append_nil, Nat.reduceAdd, Nat.reduceSub, Nat.zero_add,
      e_var, e_con, e_bin, k_bin1, k_bin2, e_neg, k_neg, e_not, k_not, e_and, k_and, e_or, k_or, e_cmp, k_cmp1, k_cmp2, e_chain, k_ch1, k_ch2, e_ite, k_ite, e_call, k_call1, k_call2, e_blt, k_blt, e_meth, k_meth1, k_meth2, e_tup, e_lst, e_dct0, e_dcd, e_idx, k_idx1, k_idx2, e_slc, k_slc1, k_slc2, k_slc3, o_none, o_some, k_o, e_new, k_new, e_lc, k_lc, lc_g, es_nil, es_cons, k_es1, k_es2, t_nil, t_cons, k_t, i_val, i_range, i_enum, k_ent, k_enl, enumD, s_par, k_par, setAll, k_body, k_turn, k_ivl, k_ivt, k_ivs,
      g_name, g_tup, g_sub, k_sub1, gs_nil, gs_cons, k_gs, s_asg, k_asg1, k_nx, s_expr, k_expr, s_ret, k_ret, s_iff, k_if, s_for, k_for, s_aug, s_pass, ss_nil, ss_cons, k_ss, bind_ok, bind_exc, bind_stuck, go_ok, go_exc, seq_nx, seq_rt, seq_exc, turn_nx, turn_rt, turn_exc, calm_ok', end_d, end_nx, end_exc, tru_bl, give, give_b, ders, der, arrD, List.getElem?_cons_zero, List.getElem?_cons_succ, List.set_cons_zero, List.set_cons_succ, if_true, if_false, Bool.false_eq_true, Bool.not_true, Bool.not_false, List.take_length,
      e_isi, k_isi, e_tin, k_tinP, k_tinN, e_tget, k_tget, g_star, i_zip, is_int_non, is_int_bl, is_int_int, is_int_str, is_int_tup, is_int_lst, is_int_dct, is_str_non, is_str_bl, is_str_int, is_str_str, is_str_tup, is_str_lst, is_str_dct, is_bool_non, is_bool_bl, is_bool_int, is_bool_str, is_bool_tup, is_bool_lst, is_bool_dct, is_tuple_non, is_tuple_bl, is_tuple_int, is_tuple_str, is_tuple_tup, is_tuple_lst, is_tuple_dct, is_list_non, is_list_bl, is_list_int, is_list_str, is_list_tup, is_list_lst, is_list_dct, is_dict_non, is_dict_bl, is_dict_int, is_dict_str, is_dict_tup, is_dict_lst, is_dict_dct,
      bfD, len_s, len_l, len_t, c_eq_ii, c_ne_ii, c_lt_ii, c_le_ii, c_gt_ii, c_ge_ii, c_is_non, c_isn_non, noneD, Int.cast_ofNat_Int, Int.reduceEq, Int.reduceLT, Int.reduceLE, decide_true, decide_false, kTup, kLst, pures, sizeLine_eq, Nat.reduceLeDiff, g_tupq, idx_q0, idx_q1, is_tuple_q, len_q, k_ivq, ix0, nd_give, id_give, ad_nnm, sl_3, zip_ts, zipD, for_cons, lc_g, b30_n T L k, dd_give]
            cases g0 : nameD a <;> simp only [List.map_cons, List.map_nil, List.length_cons, List.length_nil, List.replicate, List.cons_append, List.nil_append, List.append_nil, Nat.reduceAdd, Nat.reduceSub, Nat.zero_add,
      e_var, e_con, e_bin, k_bin1, k_bin2, e_neg, k_neg, e_not, k_not, e_and, k_and, e_or, k_or, e_cmp, k_cmp1, k_cmp2, e_chain, k_ch1, k_ch2, e_ite, k_ite, e_call, k_call1, k_call2, e_blt, k_blt, e_meth, k_meth1, k_meth2, e_tup, e_lst, e_dct0, e_dcd, e_idx, k_idx1, k_idx2, e_slc, k_slc1, k_slc2, k_slc3, o_none, o_some, k_o, e_new, k_new, e_lc, k_lc, lc_g, es_nil, es_cons, k_es1, k_es2, t_nil, t_cons, k_t, i_val, i_range, i_enum, k_ent, k_enl, enumD, s_par, k_par, setAll, k_body, k_turn, k_ivl, k_ivt, k_ivs,
      g_name, g_tup, g_sub, k_sub1, gs_nil, gs_cons, k_gs, s_asg, k_asg1, k_nx, s_expr, k_expr, s_ret, k_ret, s_iff, k_if, s_for, k_for, s_aug, s_pass, ss_nil, ss_cons, k_ss, bind_ok, bind_exc, bind_stuck, go_ok, go_exc, seq_nx, seq_rt, seq_exc, turn_nx, turn_rt, turn_exc, calm_ok', end_d, end_nx, end_exc, tru_bl, give, give_b, ders, der, arrD, List.getElem?_cons_zero, List.getElem?_cons_succ, List.set_cons_zero, List.set_cons_succ, if_true, if_false, Bool.false_eq_true, Bool.not_true, Bool.not_false, List.take_length,
      e_isi, k_isi, e_tin, k_tinP, k_tinN, e_tget, k_tget, g_star, i_zip, is_int_non, is_int_bl, is_int_int, is_int_str, is_int_tup, is_int_lst, is_int_dct, is_str_non, is_str_bl, is_str_int, is_str_str, is_str_tup, is_str_lst, is_str_dct, is_bool_non, is_bool_bl, is_bool_int, is_bool_str, is_bool_tup, is_bool_lst, is_bool_dct, is_tuple_non, is_tuple_bl, is_tuple_int, is_tuple_str, is_tuple_tup, is_tuple_lst, is_tuple_dct, is_list_non, is_list_bl, is_list_int, is_list_str, is_list_tup, is_list_lst, is_list_dct, is_dict_non, is_dict_bl, is_dict_int, is_dict_str, is_dict_tup, is_dict_lst, is_dict_dct,
      bfD, len_s, len_l, len_t, c_eq_ii, c_ne_ii, c_lt_ii, c_le_ii, c_gt_ii, c_ge_ii, c_is_non, c_isn_non, noneD, Int.cast_ofNat_Int, Int.reduceEq, Int.reduceLT, Int.reduceLE, decide_true, decide_false, kTup, kLst, pures, sizeLine_eq, Nat.reduceLeDiff, g_tupq, idx_q0, idx_q1, is_tuple_q, len_q, k_ivq, for_cons, for_nil, lc_g, b30_n T L k, b30_m T L k, b30_c T L k, g0, ix0, Bool.true_and, Bool.and_true, Bool.false_and, Bool.and_false, nl_give]
            cases g1 : nameD b <;> simp only [List.map_cons, List.map_nil, List.length_cons, List.length_nil, List.replicate, List.cons_append, List.nil_append, List.append_nil, Nat.reduceAdd, Nat.reduceSub, Nat.zero_add,
      e_var, e_con, e_bin, k_bin1, k_bin2, e_neg, k_neg, e_not, k_not, e_and, k_and, e_or, k_or, e_cmp, k_cmp1, k_cmp2, e_chain, k_ch1, k_ch2, e_ite, k_ite, e_call, k_call1, k_call2, e_blt, k_blt, e_meth, k_meth1, k_meth2, e_tup, e_lst, e_dct0, e_dcd, e_idx, k_idx1, k_idx2, e_slc, k_slc1, k_slc2, k_slc3, o_none, o_some, k_o, e_new, k_new, e_lc, k_lc, lc_g, es_nil, es_cons, k_es1, k_es2, t_nil, t_cons, k_t, i_val, i_range, i_enum, k_ent, k_enl, enumD, s_par, k_par, setAll, k_body, k_turn, k_ivl, k_ivt, k_ivs,
      g_name, g_tup, g_sub, k_sub1, gs_nil, gs_cons, k_gs, s_asg, k_asg1, k_nx, s_expr, k_expr, s_ret, k_ret, s_iff, k_if, s_for, k_for, s_aug, s_pass, ss_nil, ss_cons, k_ss, bind_ok, bind_exc, bind_stuck, go_ok, go_exc, seq_nx, seq_rt, seq_exc, turn_nx, turn_rt, turn_exc, calm_ok', end_d, end_nx, end_exc, tru_bl, give, give_b, ders, der, arrD, List.getElem?_cons_zero, List.getElem?_cons_succ, List.set_cons_zero, List.set_cons_succ, if_true, if_false, Bool.false_eq_true, Bool.not_true, Bool.not_false, List.take_length,
      e_isi, k_isi, e_tin, k_tinP, k_tinN, e_tget, k_tget, g_star, i_zip, is_int_non, is_int_bl, is_int_int, is_int_str, is_int_tup, is_int_lst, is_int_dct, is_str_non, is_str_bl, is_str_int, is_str_str, is_str_tup, is_str_lst, is_str_dct, is_bool_non, is_bool_bl, is_bool_int, is_bool_str, is_bool_tup, is_bool_lst, is_bool_dct, is_tuple_non, is_tuple_bl, is_tuple_int, is_tuple_str, is_tuple_tup, is_tuple_lst, is_tuple_dct, is_list_non, is_list_bl, is_list_int, is_list_str, is_list_tup, is_list_lst, is_list_dct, is_dict_non, is_dict_bl, is_dict_int, is_dict_str, is_dict_tup, is_dict_lst, is_dict_dct,
      bfD, len_s, len_l, len_t, c_eq_ii, c_ne_ii, c_lt_ii, c_le_ii, c_gt_ii, c_ge_ii, c_is_non, c_isn_non, noneD, Int.cast_ofNat_Int, Int.reduceEq, Int.reduceLT, Int.reduceLE, decide_true, decide_false, kTup, kLst, pures, sizeLine_eq, Nat.reduceLeDiff, g_tupq, idx_q0, idx_q1, is_tuple_q, len_q, k_ivq, for_cons, for_nil, lc_g, b30_n T L k, b30_m T L k, b30_c T L k, g1, ix0, Bool.true_and, Bool.and_true, Bool.false_and, Bool.and_false, nl_give]
            cases g2 : wholeD c 1 9999 <;> simp only [List.map_cons, List.map_nil, List.length_cons, List.length_nil, List.replicate, List.cons_append, List.nil_append, List.append_nil, Nat.reduceAdd, Nat.reduceSub, Nat.zero_add,
      e_var, e_con, e_bin, k_bin1, k_bin2, e_neg, k_neg, e_not, k_not, e_and, k_and, e_or, k_or, e_cmp, k_cmp1, k_cmp2, e_chain, k_ch1, k_ch2, e_ite, k_ite, e_call, k_call1, k_call2, e_blt, k_blt, e_meth, k_meth1, k_meth2, e_tup, e_lst, e_dct0, e_dcd, e_idx, k_idx1, k_idx2, e_slc, k_slc1, k_slc2, k_slc3, o_none, o_some, k_o, e_new, k_new, e_lc, k_lc, lc_g, es_nil, es_cons, k_es1, k_es2, t_nil, t_cons, k_t, i_val, i_range, i_enum, k_ent, k_enl, enumD, s_par, k_par, setAll, k_body, k_turn, k_ivl, k_ivt, k_ivs,
      g_name, g_tup, g_sub, k_sub1, gs_nil, gs_cons, k_gs, s_asg, k_asg1, k_nx, s_expr, k_expr, s_ret, k_ret, s_iff, k_if, s_for, k_for, s_aug, s_pass, ss_nil, ss_cons, k_ss, bind_ok, bind_exc, bind_stuck, go_ok, go_exc, seq_nx, seq_rt, seq_exc, turn_nx, turn_rt, turn_exc, calm_ok', end_d, end_nx, end_exc, tru_bl, give, give_b, ders, der, arrD, List.getElem?_cons_zero, List.getElem?_cons_succ, List.set_cons_zero, List.set_cons_succ, if_true, if_false, Bool.false_eq_true, Bool.not_true, Bool.not_false, List.take_length,
      e_isi, k_isi, e_tin, k_tinP, k_tinN, e_tget, k_tget, g_star, i_zip, is_int_non, is_int_bl, is_int_int, is_int_str, is_int_tup, is_int_lst, is_int_dct, is_str_non, is_str_bl, is_str_int, is_str_str, is_str_tup, is_str_lst, is_str_dct, is_bool_non, is_bool_bl, is_bool_int, is_bool_str, is_bool_tup, is_bool_lst, is_bool_dct, is_tuple_non, is_tuple_bl, is_tuple_int, is_tuple_str, is_tuple_tup, is_tuple_lst, is_tuple_dct, is_list_non, is_list_bl, is_list_int, is_list_str, is_list_tup, is_list_lst, is_list_dct, is_dict_non, is_dict_bl, is_dict_int, is_dict_str, is_dict_tup, is_dict_lst, is_dict_dct,
      bfD, len_s, len_l, len_t, c_eq_ii, c_ne_ii, c_lt_ii, c_le_ii, c_gt_ii, c_ge_ii, c_is_non, c_isn_non, noneD, Int.cast_ofNat_Int, Int.reduceEq, Int.reduceLT, Int.reduceLE, decide_true, decide_false, kTup, kLst, pures, sizeLine_eq, Nat.reduceLeDiff, g_tupq, idx_q0, idx_q1, is_tuple_q, len_q, k_ivq, for_cons, for_nil, lc_g, b30_n T L k, b30_m T L k, b30_c T L k, g2, ix0, Bool.true_and, Bool.and_true, Bool.false_and, Bool.and_false, nl_give]
            obtain ⟨sa, rfl⟩ := name_str g0
            obtain ⟨sb, rfl⟩ := name_str g1
            simp only [it1, it2, c_ne_ss, nd_ss, List.map_cons, List.map_nil, List.length_cons, List.length_nil, List.replicate, List.cons_append, List.nil_append, List.append_nil, Nat.reduceAdd, Nat.reduceSub, Nat.zero_add,
      e_var, e_con, e_bin, k_bin1, k_bin2, e_neg, k_neg, e_not, k_not, e_and, k_and, e_or, k_or, e_cmp, k_cmp1, k_cmp2, e_chain, k_ch1, k_ch2, e_ite, k_ite, e_call, k_call1, k_call2, e_blt, k_blt, e_meth, k_meth1, k_meth2, e_tup, e_lst, e_dct0, e_dcd, e_idx, k_idx1, k_idx2, e_slc, k_slc1, k_slc2, k_slc3, o_none, o_some, k_o, e_new, k_new, e_lc, k_lc, lc_g, es_nil, es_cons, k_es1, k_es2, t_nil, t_cons, k_t, i_val, i_range, i_enum, k_ent, k_enl, enumD, s_par, k_par, setAll, k_body, k_turn, k_ivl, k_ivt, k_ivs,
      g_name, g_tup, g_sub, k_sub1, gs_nil, gs_cons, k_gs, s_asg, k_asg1, k_nx, s_expr, k_expr, s_ret, k_ret, s_iff, k_if, s_for, k_for, s_aug, s_pass, ss_nil, ss_cons, k_ss, bind_ok, bind_exc, bind_stuck, go_ok, go_exc, seq_nx, seq_rt, seq_exc, turn_nx, turn_rt, turn_exc, calm_ok', end_d, end_nx, end_exc, tru_bl, give, give_b, ders, der, arrD, List.getElem?_cons_zero, List.getElem?_cons_succ, List.set_cons_zero, List.set_cons_succ, if_true, if_false, Bool.false_eq_true, Bool.not_true, Bool.not_false, List.take_length,
      e_isi, k_isi, e_tin, k_tinP, k_tinN, e_tget, k_tget, g_star, i_zip, is_int_non, is_int_bl, is_int_int, is_int_str, is_int_tup, is_int_lst, is_int_dct, is_str_non, is_str_bl, is_str_int, is_str_str, is_str_tup, is_str_lst, is_str_dct, is_bool_non, is_bool_bl, is_bool_int, is_bool_str, is_bool_tup, is_bool_lst, is_bool_dct, is_tuple_non, is_tuple_bl, is_tuple_int, is_tuple_str, is_tuple_tup, is_tuple_lst, is_tuple_dct, is_list_non, is_list_bl, is_list_int, is_list_str, is_list_tup, is_list_lst, is_list_dct, is_dict_non, is_dict_bl, is_dict_int, is_dict_str, is_dict_tup, is_dict_lst, is_dict_dct,
      bfD, len_s, len_l, len_t, c_eq_ii, c_ne_ii, c_lt_ii, c_le_ii, c_gt_ii, c_ge_ii, c_is_non, c_isn_non, noneD, Int.cast_ofNat_Int, Int.reduceEq, Int.reduceLT, Int.reduceLE, decide_true, decide_false, kTup, kLst, pures, sizeLine_eq, Nat.reduceLeDiff, g_tupq, idx_q0, idx_q1, is_tuple_q, len_q, k_ivq]
          · have hd : decide (((D.str ⟨#[103, 105, 118, 101]⟩ :: ys).length : Int) = 4) = false := by rw [decide_eq_false_iff_not, List.length_cons]; omega
            simp only [List.length_cons] at hd
            simp only [List.map_cons, List.map_nil, List.length_cons, List.length_nil, List.replicate, List.cons_append, List.nil_append, List.append_nil, Nat.reduceAdd, Nat.reduceSub, Nat.zero_add,
      e_var, e_con, e_bin, k_bin1, k_bin2, e_neg, k_neg, e_not, k_not, e_and, k_and, e_or, k_or, e_cmp, k_cmp1, k_cmp2, e_chain, k_ch1, k_ch2, e_ite, k_ite, e_call, k_call1, k_call2, e_blt, k_blt, e_meth, k_meth1, k_meth2, e_tup, e_lst, e_dct0, e_dcd, e_idx, k_idx1, k_idx2, e_slc, k_slc1, k_slc2, k_slc3, o_none, o_some, k_o, e_new, k_new, e_lc, k_lc, lc_g, es_nil, es_cons, k_es1, k_es2, t_nil, t_cons, k_t, i_val, i_range, i_enum, k_ent, k_enl, enumD, s_par, k_par, setAll, k_body, k_turn, k_ivl, k_ivt, k_ivs,
      g_name, g_tup, g_sub, k_sub1, gs_nil, gs_cons, k_gs, s_asg, k_asg1, k_nx, s_expr, k_expr, s_ret, k_ret, s_iff, k_if, s_for, k_for, s_aug, s_pass, ss_nil, ss_cons, k_ss, bind_ok, bind_exc, bind_stuck, go_ok, go_exc, seq_nx, seq_rt, seq_exc, turn_nx, turn_rt, turn_exc, calm_ok', end_d, end_nx, end_exc, tru_bl, give, give_b, ders, der, arrD, List.getElem?_cons_zero, List.getElem?_cons_succ, List.set_cons_zero, List.set_cons_succ, if_true, if_false, Bool.false_eq_true, Bool.not_true, Bool.not_false, List.take_length,
      e_isi, k_isi, e_tin, k_tinP, k_tinN, e_tget, k_tget, g_star, i_zip, is_int_non, is_int_bl, is_int_int, is_int_str, is_int_tup, is_int_lst, is_int_dct, is_str_non, is_str_bl, is_str_int, is_str_str, is_str_tup, is_str_lst, is_str_dct, is_bool_non, is_bool_bl, is_bool_int, is_bool_str, is_bool_tup, is_bool_lst, is_bool_dct, is_tuple_non, is_tuple_bl, is_tuple_int, is_tuple_str, is_tuple_tup, is_tuple_lst, is_tuple_dct, is_list_non, is_list_bl, is_list_int, is_list_str, is_list_tup, is_list_lst, is_list_dct, is_dict_non, is_dict_bl, is_dict_int, is_dict_str, is_dict_tup, is_dict_lst, is_dict_dct,
      bfD, len_s, len_l, len_t, c_eq_ii, c_ne_ii, c_lt_ii, c_le_ii, c_gt_ii, c_ge_ii, c_is_non, c_isn_non, noneD, Int.cast_ofNat_Int, Int.reduceEq, Int.reduceLT, Int.reduceLE, decide_true, decide_false, kTup, kLst, pures, sizeLine_eq, Nat.reduceLeDiff, g_tupq, idx_q0, idx_q1, is_tuple_q, len_q, k_ivq, ix0, nd_give, id_give, ad_nnm, hd]
            rcases ys with _ | ⟨a, _ | ⟨b, _ | ⟨c, _ | ⟨d, _ | ⟨e, r⟩⟩⟩⟩⟩ <;> first | rfl | exact absurd rfl hn
        by_cases w3 : w = handS
        · have hw : w = ⟨#[104, 97, 110, 100]⟩ := w3
          subst hw
          clear w0 w1 w2 w3
          by_cases hn : ys.length = 4
          · obtain ⟨a, b, c, d, rfl⟩ : ∃ a b c d, ys = [a, b, c, d] := by
              match ys, hn with
              | [a, b, c, d], _ => exact ⟨_, _, _, _, rfl⟩
            simp only [List.map_cons, List.map_nil, List.length_cons, List.length_nil, List.replicate, List.cons_append, List.nil_append, List.append_nil, Nat.reduceAdd, Nat.reduceSub, Nat.zero_add,
      e_var, e_con, e_bin, k_bin1, k_bin2, e_neg, k_neg, e_not, k_not, e_and, k_and, e_or, k_or, e_cmp, k_cmp1, k_cmp2, e_chain, k_ch1, k_ch2, e_ite, k_ite, e_call, k_call1, k_call2, e_blt, k_blt, e_meth, k_meth1, k_meth2, e_tup, e_lst, e_dct0, e_dcd, e_idx, k_idx1, k_idx2, e_slc, k_slc1, k_slc2, k_slc3, o_none, o_some, k_o, e_new, k_new, e_lc, k_lc, lc_g, es_nil, es_cons, k_es1, k_es2, t_nil, t_cons, k_t, i_val, i_range, i_enum, k_ent, k_enl, enumD, s_par, k_par, setAll, k_body, k_turn, k_ivl, k_ivt, k_ivs,
      g_name, g_tup, g_sub, k_sub1, gs_nil, gs_cons, k_gs, s_asg, k_asg1, k_nx, s_expr, k_expr, s_ret, k_ret, s_iff, k_if, s_for, k_for, s_aug, s_pass, ss_nil, ss_cons, k_ss, bind_ok, bind_exc, bind_stuck, go_ok, go_exc, seq_nx, seq_rt, seq_exc, turn_nx, turn_rt, turn_exc, calm_ok', end_d, end_nx, end_exc, tru_bl, give, give_b, ders, der, arrD, List.getElem?_cons_zero, List.getElem?_cons_succ, List.set_cons_zero, List.set_cons_succ, if_true, if_false, Bool.false_eq_true, Bool.not_true, Bool.not_false, List.take_length,
      e_isi, k_isi, e_tin, k_tinP, k_tinN, e_tget, k_tget, g_star, i_zip, is_int_non, is_int_bl, is_int_int, is_int_str, is_int_tup, is_int_lst, is_int_dct, is_str_non, is_str_bl, is_str_int, is_str_str, is_str_tup, is_str_lst, is_str_dct, is_bool_non, is_bool_bl, is_bool_int, is_bool_str, is_bool_tup, is_bool_lst, is_bool_dct, is_tuple_non, is_tuple_bl, is_tuple_int, is_tuple_str, is_tuple_tup, is_tuple_lst, is_tuple_dct, is_list_non, is_list_bl, is_list_int, is_list_str, is_list_tup, is_list_lst, is_list_dct, is_dict_non, is_dict_bl, is_dict_int, is_dict_str, is_dict_tup, is_dict_lst, is_dict_dct,
      bfD, len_s, len_l, len_t, c_eq_ii, c_ne_ii, c_lt_ii, c_le_ii, c_gt_ii, c_ge_ii, c_is_non, c_isn_non, noneD, Int.cast_ofNat_Int, Int.reduceEq, Int.reduceLT, Int.reduceLE, decide_true, decide_false, kTup, kLst, pures, sizeLine_eq, Nat.reduceLeDiff, g_tupq, idx_q0, idx_q1, is_tuple_q, len_q, k_ivq, ix0, nd_hand, id_hand, ad_nnnm, sl_4, zip_ts, zipD, for_cons, lc_g, b30_n T L k, dd_hand]
            cases g0 : nameD a <;> simp only [List.map_cons, List.map_nil, List.length_cons, List.length_nil, List.replicate, List.cons_append, List.nil_append, List.append_nil, Nat.reduceAdd, Nat.reduceSub, Nat.zero_add,
      e_var, e_con, e_bin, k_bin1, k_bin2, e_neg, k_neg, e_not, k_not, e_and, k_and, e_or, k_or, e_cmp, k_cmp1, k_cmp2, e_chain, k_ch1, k_ch2, e_ite, k_ite, e_call, k_call1, k_call2, e_blt, k_blt, e_meth, k_meth1, k_meth2, e_tup, e_lst, e_dct0, e_dcd, e_idx, k_idx1, k_idx2, e_slc, k_slc1, k_slc2, k_slc3, o_none, o_some, k_o, e_new, k_new, e_lc, k_lc, lc_g, es_nil, es_cons, k_es1, k_es2, t_nil, t_cons, k_t, i_val, i_range, i_enum, k_ent, k_enl, enumD, s_par, k_par, setAll, k_body, k_turn, k_ivl, k_ivt, k_ivs,
      g_name, g_tup, g_sub, k_sub1, gs_nil, gs_cons, k_gs, s_asg, k_asg1, k_nx, s_expr, k_expr, s_ret, k_ret, s_iff, k_if, s_for, k_for, s_aug, s_pass, ss_nil, ss_cons, k_ss, bind_ok, bind_exc, bind_stuck, go_ok, go_exc, seq_nx, seq_rt, seq_exc, turn_nx, turn_rt, turn_exc, calm_ok', end_d, end_nx, end_exc, tru_bl, give, give_b, ders, der, arrD, List.getElem?_cons_zero, List.getElem?_cons_succ, List.set_cons_zero, List.set_cons_succ, if_true, if_false, Bool.false_eq_true, Bool.not_true, Bool.not_false, List.take_length,
      e_isi, k_isi, e_tin, k_tinP, k_tinN, e_tget, k_tget, g_star, i_zip, is_int_non, is_int_bl, is_int_int, is_int_str, is_int_tup, is_int_lst, is_int_dct, is_str_non, is_str_bl, is_str_int, is_str_str, is_str_tup, is_str_lst, is_str_dct, is_bool_non, is_bool_bl, is_bool_int, is_bool_str, is_bool_tup, is_bool_lst, is_bool_dct, is_tuple_non, is_tuple_bl, is_tuple_int, is_tuple_str, is_tuple_tup, is_tuple_lst, is_tuple_dct, is_list_non, is_list_bl, is_list_int, is_list_str, is_list_tup, is_list_lst, is_list_dct, is_dict_non, is_dict_bl, is_dict_int, is_dict_str, is_dict_tup, is_dict_lst, is_dict_dct,
      bfD, len_s, len_l, len_t, c_eq_ii, c_ne_ii, c_lt_ii, c_le_ii, c_gt_ii, c_ge_ii, c_is_non, c_isn_non, noneD, Int.cast_ofNat_Int, Int.reduceEq, Int.reduceLT, Int.reduceLE, decide_true, decide_false, kTup, kLst, pures, sizeLine_eq, Nat.reduceLeDiff, g_tupq, idx_q0, idx_q1, is_tuple_q, len_q, k_ivq, for_cons, for_nil, lc_g, b30_n T L k, b30_m T L k, b30_c T L k, g0, ix0, Bool.true_and, Bool.and_true, Bool.false_and, Bool.and_false, nl_hand]
            cases g1 : nameD b <;> simp only [List.map_cons, List.map_nil, List.length_cons, List.length_nil, List.replicate, List.cons_append, List.nil_append, List.append_nil, Nat.reduceAdd, Nat.reduceSub, Nat.zero_add,
      e_var, e_con, e_bin, k_bin1, k_bin2, e_neg, k_neg, e_not, k_not, e_and, k_and, e_or, k_or, e_cmp, k_cmp1, k_cmp2, e_chain, k_ch1, k_ch2, e_ite, k_ite, e_call, k_call1, k_call2, e_blt, k_blt, e_meth, k_meth1, k_meth2, e_tup, e_lst, e_dct0, e_dcd, e_idx, k_idx1, k_idx2, e_slc, k_slc1, k_slc2, k_slc3, o_none, o_some, k_o, e_new, k_new, e_lc, k_lc, lc_g, es_nil, es_cons, k_es1, k_es2, t_nil, t_cons, k_t, i_val, i_range, i_enum, k_ent, k_enl, enumD, s_par, k_par, setAll, k_body, k_turn, k_ivl, k_ivt, k_ivs,
      g_name, g_tup, g_sub, k_sub1, gs_nil, gs_cons, k_gs, s_asg, k_asg1, k_nx, s_expr, k_expr, s_ret, k_ret, s_iff, k_if, s_for, k_for, s_aug, s_pass, ss_nil, ss_cons, k_ss, bind_ok, bind_exc, bind_stuck, go_ok, go_exc, seq_nx, seq_rt, seq_exc, turn_nx, turn_rt, turn_exc, calm_ok', end_d, end_nx, end_exc, tru_bl, give, give_b, ders, der, arrD, List.getElem?_cons_zero, List.getElem?_cons_succ, List.set_cons_zero, List.set_cons_succ, if_true, if_false, Bool.false_eq_true, Bool.not_true, Bool.not_false, List.take_length,
      e_isi, k_isi, e_tin, k_tinP, k_tinN, e_tget, k_tget, g_star, i_zip, is_int_non, is_int_bl, is_int_int, is_int_str, is_int_tup, is_int_lst, is_int_dct, is_str_non, is_str_bl, is_str_int, is_str_str, is_str_tup, is_str_lst, is_str_dct, is_bool_non, is_bool_bl, is_bool_int, is_bool_str, is_bool_tup, is_bool_lst, is_bool_dct, is_tuple_non, is_tuple_bl, is_tuple_int, is_tuple_str, is_tuple_tup, is_tuple_lst, is_tuple_dct, is_list_non, is_list_bl, is_list_int, is_list_str, is_list_tup, is_list_lst, is_list_dct, is_dict_non, is_dict_bl, is_dict_int, is_dict_str, is_dict_tup, is_dict_lst, is_dict_dct,
      bfD, len_s, len_l, len_t, c_eq_ii, c_ne_ii, c_lt_ii, c_le_ii, c_gt_ii, c_ge_ii, c_is_non, c_isn_non, noneD, Int.cast_ofNat_Int, Int.reduceEq, Int.reduceLT, Int.reduceLE, decide_true, decide_false, kTup, kLst, pures, sizeLine_eq, Nat.reduceLeDiff, g_tupq, idx_q0, idx_q1, is_tuple_q, len_q, k_ivq, for_cons, for_nil, lc_g, b30_n T L k, b30_m T L k, b30_c T L k, g1, ix0, Bool.true_and, Bool.and_true, Bool.false_and, Bool.and_false, nl_hand]
            cases g2 : nameD c <;> simp only [List.map_cons, List.map_nil, List.length_cons, List.length_nil, List.replicate, List.cons_append, List.nil_append, List.append_nil, Nat.reduceAdd, Nat.reduceSub, Nat.zero_add,
      e_var, e_con, e_bin, k_bin1, k_bin2, e_neg, k_neg, e_not, k_not, e_and, k_and, e_or, k_or, e_cmp, k_cmp1, k_cmp2, e_chain, k_ch1, k_ch2, e_ite, k_ite, e_call, k_call1, k_call2, e_blt, k_blt, e_meth, k_meth1, k_meth2, e_tup, e_lst, e_dct0, e_dcd, e_idx, k_idx1, k_idx2, e_slc, k_slc1, k_slc2, k_slc3, o_none, o_some, k_o, e_new, k_new, e_lc, k_lc, lc_g, es_nil, es_cons, k_es1, k_es2, t_nil, t_cons, k_t, i_val, i_range, i_enum, k_ent, k_enl, enumD, s_par, k_par, setAll, k_body, k_turn, k_ivl, k_ivt, k_ivs,
      g_name, g_tup, g_sub, k_sub1, gs_nil, gs_cons, k_gs, s_asg, k_asg1, k_nx, s_expr, k_expr, s_ret, k_ret, s_iff, k_if, s_for, k_for, s_aug, s_pass, ss_nil, ss_cons, k_ss, bind_ok, bind_exc, bind_stuck, go_ok, go_exc, seq_nx, seq_rt, seq_exc, turn_nx, turn_rt, turn_exc, calm_ok', end_d, end_nx, end_exc, tru_bl, give, give_b, ders, der, arrD, List.getElem?_cons_zero, List.getElem?_cons_succ, List.set_cons_zero, List.set_cons_succ, if_true, if_false, Bool.false_eq_true, Bool.not_true, Bool.not_false, List.take_length,
      e_isi, k_isi, e_tin, k_tinP, k_tinN, e_tget, k_tget, g_star, i_zip, is_int_non, is_int_bl, is_int_int, is_int_str, is_int_tup, is_int_lst, is_int_dct, is_str_non, is_str_bl, is_str_int, is_str_str, is_str_tup, is_str_lst, is_str_dct, is_bool_non, is_bool_bl, is_bool_int, is_bool_str, is_bool_tup, is_bool_lst, is_bool_dct, is_tuple_non, is_tuple_bl, is_tuple_int, is_tuple_str, is_tuple_tup, is_tuple_lst, is_tuple_dct, is_list_non, is_list_bl, is_list_int, is_list_str, is_list_tup, is_list_lst, is_list_dct, is_dict_non, is_dict_bl, is_dict_int, is_dict_str, is_dict_tup, is_dict_lst, is_dict_dct,
      bfD, len_s, len_l, len_t, c_eq_ii, c_ne_ii, c_lt_ii, c_le_ii, c_gt_ii, c_ge_ii, c_is_non, c_isn_non, noneD, Int.cast_ofNat_Int, Int.reduceEq, Int.reduceLT, Int.reduceLE, decide_true, decide_false, kTup, kLst, pures, sizeLine_eq, Nat.reduceLeDiff, g_tupq, idx_q0, idx_q1, is_tuple_q, len_q, k_ivq, for_cons, for_nil, lc_g, b30_n T L k, b30_m T L k, b30_c T L k, g2, ix0, Bool.true_and, Bool.and_true, Bool.false_and, Bool.and_false, nl_hand]
            cases g3 : wholeD d 1 9999 <;> simp only [List.map_cons, List.map_nil, List.length_cons, List.length_nil, List.replicate, List.cons_append, List.nil_append, List.append_nil, Nat.reduceAdd, Nat.reduceSub, Nat.zero_add,
      e_var, e_con, e_bin, k_bin1, k_bin2, e_neg, k_neg, e_not, k_not, e_and, k_and, e_or, k_or, e_cmp, k_cmp1, k_cmp2, e_chain, k_ch1, k_ch2, e_ite, k_ite, e_call, k_call1, k_call2, e_blt, k_blt, e_meth, k_meth1, k_meth2, e_tup, e_lst, e_dct0, e_dcd, e_idx, k_idx1, k_idx2, e_slc, k_slc1, k_slc2, k_slc3, o_none, o_some, k_o, e_new, k_new, e_lc, k_lc, lc_g, es_nil, es_cons, k_es1, k_es2, t_nil, t_cons, k_t, i_val, i_range, i_enum, k_ent, k_enl, enumD, s_par, k_par, setAll, k_body, k_turn, k_ivl, k_ivt, k_ivs,
      g_name, g_tup, g_sub, k_sub1, gs_nil, gs_cons, k_gs, s_asg, k_asg1, k_nx, s_expr, k_expr, s_ret, k_ret, s_iff, k_if, s_for, k_for, s_aug, s_pass, ss_nil, ss_cons, k_ss, bind_ok, bind_exc, bind_stuck, go_ok, go_exc, seq_nx, seq_rt, seq_exc, turn_nx, turn_rt, turn_exc, calm_ok', end_d, end_nx, end_exc, tru_bl, give, give_b, ders, der, arrD, List.getElem?_cons_zero, List.getElem?_cons_succ, List.set_cons_zero, List.set_cons_succ, if_true, if_false, Bool.false_eq_true, Bool.not_true, Bool.not_false, List.take_length,
      e_isi, k_isi, e_tin, k_tinP, k_tinN, e_tget, k_tget, g_star, i_zip, is_int_non, is_int_bl, is_int_int, is_int_str, is_int_tup, is_int_lst, is_int_dct, is_str_non, is_str_bl, is_str_int, is_str_str, is_str_tup, is_str_lst, is_str_dct, is_bool_non, is_bool_bl, is_bool_int, is_bool_str, is_bool_tup, is_bool_lst, is_bool_dct, is_tuple_non, is_tuple_bl, is_tuple_int, is_tuple_str, is_tuple_tup, is_tuple_lst, is_tuple_dct, is_list_non, is_list_bl, is_list_int, is_list_str, is_list_tup, is_list_lst, is_list_dct, is_dict_non, is_dict_bl, is_dict_int, is_dict_str, is_dict_tup, is_dict_lst, is_dict_dct,
      bfD, len_s, len_l, len_t, c_eq_ii, c_ne_ii, c_lt_ii, c_le_ii, c_gt_ii, c_ge_ii, c_is_non, c_isn_non, noneD, Int.cast_ofNat_Int, Int.reduceEq, Int.reduceLT, Int.reduceLE, decide_true, decide_false, kTup, kLst, pures, sizeLine_eq, Nat.reduceLeDiff, g_tupq, idx_q0, idx_q1, is_tuple_q, len_q, k_ivq, for_cons, for_nil, lc_g, b30_n T L k, b30_m T L k, b30_c T L k, g3, ix0, Bool.true_and, Bool.and_true, Bool.false_and, Bool.and_false, nl_hand]
            obtain ⟨sa, rfl⟩ := name_str g0
            obtain ⟨sb, rfl⟩ := name_str g1
            simp only [it1, it2, c_ne_ss, nd_ss, List.map_cons, List.map_nil, List.length_cons, List.length_nil, List.replicate, List.cons_append, List.nil_append, List.append_nil, Nat.reduceAdd, Nat.reduceSub, Nat.zero_add,
      e_var, e_con, e_bin, k_bin1, k_bin2, e_neg, k_neg, e_not, k_not, e_and, k_and, e_or, k_or, e_cmp, k_cmp1, k_cmp2, e_chain, k_ch1, k_ch2, e_ite, k_ite, e_call, k_call1, k_call2, e_blt, k_blt, e_meth, k_meth1, k_meth2, e_tup, e_lst, e_dct0, e_dcd, e_idx, k_idx1, k_idx2, e_slc, k_slc1, k_slc2, k_slc3, o_none, o_some, k_o, e_new, k_new, e_lc, k_lc, lc_g, es_nil, es_cons, k_es1, k_es2, t_nil, t_cons, k_t, i_val, i_range, i_enum, k_ent, k_enl, enumD, s_par, k_par, setAll, k_body, k_turn, k_ivl, k_ivt, k_ivs,
      g_name, g_tup, g_sub, k_sub1, gs_nil, gs_cons, k_gs, s_asg, k_asg1, k_nx, s_expr, k_expr, s_ret, k_ret, s_iff, k_if, s_for, k_for, s_aug, s_pass, ss_nil, ss_cons, k_ss, bind_ok, bind_exc, bind_stuck, go_ok, go_exc, seq_nx, seq_rt, seq_exc, turn_nx, turn_rt, turn_exc, calm_ok', end_d, end_nx, end_exc, tru_bl, give, give_b, ders, der, arrD, List.getElem?_cons_zero, List.getElem?_cons_succ, List.set_cons_zero, List.set_cons_succ, if_true, if_false, Bool.false_eq_true, Bool.not_true, Bool.not_false, List.take_length,
      e_isi, k_isi, e_tin, k_tinP, k_tinN, e_tget, k_tget, g_star, i_zip, is_int_non, is_int_bl, is_int_int, is_int_str, is_int_tup, is_int_lst, is_int_dct, is_str_non, is_str_bl, is_str_int, is_str_str, is_str_tup, is_str_lst, is_str_dct, is_bool_non, is_bool_bl, is_bool_int, is_bool_str, is_bool_tup, is_bool_lst, is_bool_dct, is_tuple_non, is_tuple_bl, is_tuple_int, is_tuple_str, is_tuple_tup, is_tuple_lst, is_tuple_dct, is_list_non, is_list_bl, is_list_int, is_list_str, is_list_tup, is_list_lst, is_list_dct, is_dict_non, is_dict_bl, is_dict_int, is_dict_str, is_dict_tup, is_dict_lst, is_dict_dct,
      bfD, len_s, len_l, len_t, c_eq_ii, c_ne_ii, c_lt_ii, c_le_ii, c_gt_ii, c_ge_ii, c_is_non, c_isn_non, noneD, Int.cast_ofNat_Int, Int.reduceEq, Int.reduceLT, Int.reduceLE, decide_true, decide_false, kTup, kLst, pures, sizeLine_eq, Nat.reduceLeDiff, g_tupq, idx_q0, idx_q1, is_tuple_q, len_q, k_ivq]
          · have hd : decide (((D.str ⟨#[104, 97, 110, 100]⟩ :: ys).length : Int) = 5) = false := by rw [decide_eq_false_iff_not, List.length_cons]; omega
            simp only [List.length_cons] at hd
            simp only [List.map_cons, List.map_nil, List.length_cons, List.length_nil, List.replicate, List.cons_append, List.nil_append, List.append_nil, Nat.reduceAdd, Nat.reduceSub, Nat.zero_add,
      e_var, e_con, e_bin, k_bin1, k_bin2, e_neg, k_neg, e_not, k_not, e_and, k_and, e_or, k_or, e_cmp, k_cmp1, k_cmp2, e_chain, k_ch1, k_ch2, e_ite, k_ite, e_call, k_call1, k_call2, e_blt, k_blt, e_meth, k_meth1, k_meth2, e_tup, e_lst, e_dct0, e_dcd, e_idx, k_idx1, k_idx2, e_slc, k_slc1, k_slc2, k_slc3, o_none, o_some, k_o, e_new, k_new, e_lc, k_lc, lc_g, es_nil, es_cons, k_es1, k_es2, t_nil, t_cons, k_t, i_val, i_range, i_enum, k_ent, k_enl, enumD, s_par, k_par, setAll, k_body, k_turn, k_ivl, k_ivt, k_ivs,
      g_name, g_tup, g_sub, k_sub1, gs_nil, gs_cons, k_gs, s_asg, k_asg1, k_nx, s_expr, k_expr, s_ret, k_ret, s_iff, k_if, s_for, k_for, s_aug, s_pass, ss_nil, ss_cons, k_ss, bind_ok, bind_exc, bind_stuck, go_ok, go_exc, seq_nx, seq_rt, seq_exc, turn_nx, turn_rt, turn_exc, calm_ok', end_d, end_nx, end_exc, tru_bl, give, give_b, ders, der, arrD, List.getElem?_cons_zero, List.getElem?_cons_succ, List.set_cons_zero, List.set_cons_succ, if_true, if_false, Bool.false_eq_true, Bool.not_true, Bool.not_false, List.take_length,
      e_isi, k_isi, e_tin, k_tinP, k_tinN, e_tget, k_tget, g_star, i_zip, is_int_non, is_int_bl, is_int_int, is_int_str, is_int_tup, is_int_lst, is_int_dct, is_str_non, is_str_bl, is_str_int, is_str_str, is_str_tup, is_str_lst, is_str_dct, is_bool_non, is_bool_bl, is_bool_int, is_bool_str, is_bool_tup, is_bool_lst, is_bool_dct, is_tuple_non, is_tuple_bl, is_tuple_int, is_tuple_str, is_tuple_tup, is_tuple_lst, is_tuple_dct, is_list_non, is_list_bl, is_list_int, is_list_str, is_list_tup, is_list_lst, is_list_dct, is_dict_non, is_dict_bl, is_dict_int, is_dict_str, is_dict_tup, is_dict_lst, is_dict_dct,
      bfD, len_s, len_l, len_t, c_eq_ii, c_ne_ii, c_lt_ii, c_le_ii, c_gt_ii, c_ge_ii, c_is_non, c_isn_non, noneD, Int.cast_ofNat_Int, Int.reduceEq, Int.reduceLT, Int.reduceLE, decide_true, decide_false, kTup, kLst, pures, sizeLine_eq, Nat.reduceLeDiff, g_tupq, idx_q0, idx_q1, is_tuple_q, len_q, k_ivq, ix0, nd_hand, id_hand, ad_nnnm, hd]
            rcases ys with _ | ⟨a, _ | ⟨b, _ | ⟨c, _ | ⟨d, _ | ⟨e, r⟩⟩⟩⟩⟩ <;> first | rfl | exact absurd rfl hn
        by_cases w4 : w = forgetS
        · have hw : w = ⟨#[102, 111, 114, 103, 101, 116]⟩ := w4
          subst hw
          clear w0 w1 w2 w3 w4
          by_cases hn : ys.length = 3
          · obtain ⟨a, b, c, rfl⟩ : ∃ a b c, ys = [a, b, c] := by
              match ys, hn with
              | [a, b, c], _ => exact ⟨_, _, _, rfl⟩
            simp only [List.map_cons, List.map_nil, List.length_cons, List.length_nil, List.replicate, List.cons_append, List.nil_append, List.append_nil, Nat.reduceAdd, Nat.reduceSub, Nat.zero_add,
      e_var, e_con, e_bin, k_bin1, k_bin2, e_neg, k_neg, e_not, k_not, e_and, k_and, e_or, k_or, e_cmp, k_cmp1, k_cmp2, e_chain, k_ch1, k_ch2, e_ite, k_ite, e_call, k_call1, k_call2, e_blt, k_blt, e_meth, k_meth1, k_meth2, e_tup, e_lst, e_dct0, e_dcd, e_idx, k_idx1, k_idx2, e_slc, k_slc1, k_slc2, k_slc3, o_none, o_some, k_o, e_new, k_new, e_lc, k_lc, lc_g, es_nil, es_cons, k_es1, k_es2, t_nil, t_cons, k_t, i_val, i_range, i_enum, k_ent, k_enl, enumD, s_par, k_par, setAll, k_body, k_turn, k_ivl, k_ivt, k_ivs,
      g_name, g_tup, g_sub, k_sub1, gs_nil, gs_cons, k_gs, s_asg, k_asg1, k_nx, s_expr, k_expr, s_ret, k_ret, s_iff, k_if, s_for, k_for, s_aug, s_pass, ss_nil, ss_cons, k_ss, bind_ok, bind_exc, bind_stuck, go_ok, go_exc, seq_nx, seq_rt, seq_exc, turn_nx, turn_rt, turn_exc, calm_ok', end_d, end_nx, end_exc, tru_bl, give, give_b, ders, der, arrD, List.getElem?_cons_zero, List.getElem?_cons_succ, List.set_cons_zero, List.set_cons_succ, if_true, if_false, Bool.false_eq_true, Bool.not_true, Bool.not_false, List.take_length,
      e_isi, k_isi, e_tin, k_tinP, k_tinN, e_tget, k_tget, g_star, i_zip, is_int_non, is_int_bl, is_int_int, is_int_str, is_int_tup, is_int_lst, is_int_dct, is_str_non, is_str_bl, is_str_int, is_str_str, is_str_tup, is_str_lst, is_str_dct, is_bool_non, is_bool_bl, is_bool_int, is_bool_str, is_bool_tup, is_bool_lst, is_bool_dct, is_tuple_non, is_tuple_bl, is_tuple_int, is_tuple_str, is_tuple_tup, is_tuple_lst, is_tuple_dct, is_list_non, is_list_bl, is_list_int, is_list_str, is_list_tup, is_list_lst, is_list_dct, is_dict_non, is_dict_bl, is_dict_int, is_dict_str, is_dict_tup, is_dict_lst, is_dict_dct,
      bfD, len_s, len_l, len_t, c_eq_ii, c_ne_ii, c_lt_ii, c_le_ii, c_gt_ii, c_ge_ii, c_is_non, c_isn_non, noneD, Int.cast_ofNat_Int, Int.reduceEq, Int.reduceLT, Int.reduceLE, decide_true, decide_false, kTup, kLst, pures, sizeLine_eq, Nat.reduceLeDiff, g_tupq, idx_q0, idx_q1, is_tuple_q, len_q, k_ivq, ix0, nd_forget, id_forget, ad_ncm, sl_3, zip_ts, zipD, for_cons, lc_g, b30_n T L k, dd_forget]
            cases g0 : nameD a <;> simp only [List.map_cons, List.map_nil, List.length_cons, List.length_nil, List.replicate, List.cons_append, List.nil_append, List.append_nil, Nat.reduceAdd, Nat.reduceSub, Nat.zero_add,
      e_var, e_con, e_bin, k_bin1, k_bin2, e_neg, k_neg, e_not, k_not, e_and, k_and, e_or, k_or, e_cmp, k_cmp1, k_cmp2, e_chain, k_ch1, k_ch2, e_ite, k_ite, e_call, k_call1, k_call2, e_blt, k_blt, e_meth, k_meth1, k_meth2, e_tup, e_lst, e_dct0, e_dcd, e_idx, k_idx1, k_idx2, e_slc, k_slc1, k_slc2, k_slc3, o_none, o_some, k_o, e_new, k_new, e_lc, k_lc, lc_g, es_nil, es_cons, k_es1, k_es2, t_nil, t_cons, k_t, i_val, i_range, i_enum, k_ent, k_enl, enumD, s_par, k_par, setAll, k_body, k_turn, k_ivl, k_ivt, k_ivs,
      g_name, g_tup, g_sub, k_sub1, gs_nil, gs_cons, k_gs, s_asg, k_asg1, k_nx, s_expr, k_expr, s_ret, k_ret, s_iff, k_if, s_for, k_for, s_aug, s_pass, ss_nil, ss_cons, k_ss, bind_ok, bind_exc, bind_stuck, go_ok, go_exc, seq_nx, seq_rt, seq_exc, turn_nx, turn_rt, turn_exc, calm_ok', end_d, end_nx, end_exc, tru_bl, give, give_b, ders, der, arrD, List.getElem?_cons_zero, List.getElem?_cons_succ, List.set_cons_zero, List.set_cons_succ, if_true, if_false, Bool.false_eq_true, Bool.not_true, Bool.not_false, List.take_length,
      e_isi, k_isi, e_tin, k_tinP, k_tinN, e_tget, k_tget, g_star, i_zip, is_int_non, is_int_bl, is_int_int, is_int_str, is_int_tup, is_int_lst, is_int_dct, is_str_non, is_str_bl, is_str_int, is_str_str, is_str_tup, is_str_lst, is_str_dct, is_bool_non, is_bool_bl, is_bool_int, is_bool_str, is_bool_tup, is_bool_lst, is_bool_dct, is_tuple_non, is_tuple_bl, is_tuple_int, is_tuple_str, is_tuple_tup, is_tuple_lst, is_tuple_dct, is_list_non, is_list_bl, is_list_int, is_list_str, is_list_tup, is_list_lst, is_list_dct, is_dict_non, is_dict_bl, is_dict_int, is_dict_str, is_dict_tup, is_dict_lst, is_dict_dct,
      bfD, len_s, len_l, len_t, c_eq_ii, c_ne_ii, c_lt_ii, c_le_ii, c_gt_ii, c_ge_ii, c_is_non, c_isn_non, noneD, Int.cast_ofNat_Int, Int.reduceEq, Int.reduceLT, Int.reduceLE, decide_true, decide_false, kTup, kLst, pures, sizeLine_eq, Nat.reduceLeDiff, g_tupq, idx_q0, idx_q1, is_tuple_q, len_q, k_ivq, for_cons, for_nil, lc_g, b30_n T L k, b30_m T L k, b30_c T L k, g0, ix0, Bool.true_and, Bool.and_true, Bool.false_and, Bool.and_false, nl_forget]
            cases g1 : (chestD b || nameD b) <;> simp only [List.map_cons, List.map_nil, List.length_cons, List.length_nil, List.replicate, List.cons_append, List.nil_append, List.append_nil, Nat.reduceAdd, Nat.reduceSub, Nat.zero_add,
      e_var, e_con, e_bin, k_bin1, k_bin2, e_neg, k_neg, e_not, k_not, e_and, k_and, e_or, k_or, e_cmp, k_cmp1, k_cmp2, e_chain, k_ch1, k_ch2, e_ite, k_ite, e_call, k_call1, k_call2, e_blt, k_blt, e_meth, k_meth1, k_meth2, e_tup, e_lst, e_dct0, e_dcd, e_idx, k_idx1, k_idx2, e_slc, k_slc1, k_slc2, k_slc3, o_none, o_some, k_o, e_new, k_new, e_lc, k_lc, lc_g, es_nil, es_cons, k_es1, k_es2, t_nil, t_cons, k_t, i_val, i_range, i_enum, k_ent, k_enl, enumD, s_par, k_par, setAll, k_body, k_turn, k_ivl, k_ivt, k_ivs,
      g_name, g_tup, g_sub, k_sub1, gs_nil, gs_cons, k_gs, s_asg, k_asg1, k_nx, s_expr, k_expr, s_ret, k_ret, s_iff, k_if, s_for, k_for, s_aug, s_pass, ss_nil, ss_cons, k_ss, bind_ok, bind_exc, bind_stuck, go_ok, go_exc, seq_nx, seq_rt, seq_exc, turn_nx, turn_rt, turn_exc, calm_ok', end_d, end_nx, end_exc, tru_bl, give, give_b, ders, der, arrD, List.getElem?_cons_zero, List.getElem?_cons_succ, List.set_cons_zero, List.set_cons_succ, if_true, if_false, Bool.false_eq_true, Bool.not_true, Bool.not_false, List.take_length,
      e_isi, k_isi, e_tin, k_tinP, k_tinN, e_tget, k_tget, g_star, i_zip, is_int_non, is_int_bl, is_int_int, is_int_str, is_int_tup, is_int_lst, is_int_dct, is_str_non, is_str_bl, is_str_int, is_str_str, is_str_tup, is_str_lst, is_str_dct, is_bool_non, is_bool_bl, is_bool_int, is_bool_str, is_bool_tup, is_bool_lst, is_bool_dct, is_tuple_non, is_tuple_bl, is_tuple_int, is_tuple_str, is_tuple_tup, is_tuple_lst, is_tuple_dct, is_list_non, is_list_bl, is_list_int, is_list_str, is_list_tup, is_list_lst, is_list_dct, is_dict_non, is_dict_bl, is_dict_int, is_dict_str, is_dict_tup, is_dict_lst, is_dict_dct,
      bfD, len_s, len_l, len_t, c_eq_ii, c_ne_ii, c_lt_ii, c_le_ii, c_gt_ii, c_ge_ii, c_is_non, c_isn_non, noneD, Int.cast_ofNat_Int, Int.reduceEq, Int.reduceLT, Int.reduceLE, decide_true, decide_false, kTup, kLst, pures, sizeLine_eq, Nat.reduceLeDiff, g_tupq, idx_q0, idx_q1, is_tuple_q, len_q, k_ivq, for_cons, for_nil, lc_g, b30_n T L k, b30_m T L k, b30_c T L k, g1, ix0, Bool.true_and, Bool.and_true, Bool.false_and, Bool.and_false, nl_forget]
            cases g2 : wholeD c 1 9999 <;> simp only [List.map_cons, List.map_nil, List.length_cons, List.length_nil, List.replicate, List.cons_append, List.nil_append, List.append_nil, Nat.reduceAdd, Nat.reduceSub, Nat.zero_add,
      e_var, e_con, e_bin, k_bin1, k_bin2, e_neg, k_neg, e_not, k_not, e_and, k_and, e_or, k_or, e_cmp, k_cmp1, k_cmp2, e_chain, k_ch1, k_ch2, e_ite, k_ite, e_call, k_call1, k_call2, e_blt, k_blt, e_meth, k_meth1, k_meth2, e_tup, e_lst, e_dct0, e_dcd, e_idx, k_idx1, k_idx2, e_slc, k_slc1, k_slc2, k_slc3, o_none, o_some, k_o, e_new, k_new, e_lc, k_lc, lc_g, es_nil, es_cons, k_es1, k_es2, t_nil, t_cons, k_t, i_val, i_range, i_enum, k_ent, k_enl, enumD, s_par, k_par, setAll, k_body, k_turn, k_ivl, k_ivt, k_ivs,
      g_name, g_tup, g_sub, k_sub1, gs_nil, gs_cons, k_gs, s_asg, k_asg1, k_nx, s_expr, k_expr, s_ret, k_ret, s_iff, k_if, s_for, k_for, s_aug, s_pass, ss_nil, ss_cons, k_ss, bind_ok, bind_exc, bind_stuck, go_ok, go_exc, seq_nx, seq_rt, seq_exc, turn_nx, turn_rt, turn_exc, calm_ok', end_d, end_nx, end_exc, tru_bl, give, give_b, ders, der, arrD, List.getElem?_cons_zero, List.getElem?_cons_succ, List.set_cons_zero, List.set_cons_succ, if_true, if_false, Bool.false_eq_true, Bool.not_true, Bool.not_false, List.take_length,
      e_isi, k_isi, e_tin, k_tinP, k_tinN, e_tget, k_tget, g_star, i_zip, is_int_non, is_int_bl, is_int_int, is_int_str, is_int_tup, is_int_lst, is_int_dct, is_str_non, is_str_bl, is_str_int, is_str_str, is_str_tup, is_str_lst, is_str_dct, is_bool_non, is_bool_bl, is_bool_int, is_bool_str, is_bool_tup, is_bool_lst, is_bool_dct, is_tuple_non, is_tuple_bl, is_tuple_int, is_tuple_str, is_tuple_tup, is_tuple_lst, is_tuple_dct, is_list_non, is_list_bl, is_list_int, is_list_str, is_list_tup, is_list_lst, is_list_dct, is_dict_non, is_dict_bl, is_dict_int, is_dict_str, is_dict_tup, is_dict_lst, is_dict_dct,
      bfD, len_s, len_l, len_t, c_eq_ii, c_ne_ii, c_lt_ii, c_le_ii, c_gt_ii, c_ge_ii, c_is_non, c_isn_non, noneD, Int.cast_ofNat_Int, Int.reduceEq, Int.reduceLT, Int.reduceLE, decide_true, decide_false, kTup, kLst, pures, sizeLine_eq, Nat.reduceLeDiff, g_tupq, idx_q0, idx_q1, is_tuple_q, len_q, k_ivq, for_cons, for_nil, lc_g, b30_n T L k, b30_m T L k, b30_c T L k, g2, ix0, Bool.true_and, Bool.and_true, Bool.false_and, Bool.and_false, nl_forget]
            obtain ⟨sa, rfl⟩ := name_str g0
            obtain ⟨sb, rfl⟩ := cn_str g1
            simp only [it1, it2, c_ne_ss, nd_ss, List.map_cons, List.map_nil, List.length_cons, List.length_nil, List.replicate, List.cons_append, List.nil_append, List.append_nil, Nat.reduceAdd, Nat.reduceSub, Nat.zero_add,
      e_var, e_con, e_bin, k_bin1, k_bin2, e_neg, k_neg, e_not, k_not, e_and, k_and, e_or, k_or, e_cmp, k_cmp1, k_cmp2, e_chain, k_ch1, k_ch2, e_ite, k_ite, e_call, k_call1, k_call2, e_blt, k_blt, e_meth, k_meth1, k_meth2, e_tup, e_lst, e_dct0, e_dcd, e_idx, k_idx1, k_idx2, e_slc, k_slc1, k_slc2, k_slc3, o_none, o_some, k_o, e_new, k_new, e_lc, k_lc, lc_g, es_nil, es_cons, k_es1, k_es2, t_nil, t_cons, k_t, i_val, i_range, i_enum, k_ent, k_enl, enumD, s_par, k_par, setAll, k_body, k_turn, k_ivl, k_ivt, k_ivs,
      g_name, g_tup, g_sub, k_sub1, gs_nil, gs_cons, k_gs, s_asg, k_asg1, k_nx, s_expr, k_expr, s_ret, k_ret, s_iff, k_if, s_for, k_for, s_aug, s_pass, ss_nil, ss_cons, k_ss, bind_ok, bind_exc, bind_stuck, go_ok, go_exc, seq_nx, seq_rt, seq_exc, turn_nx, turn_rt, turn_exc, calm_ok', end_d, end_nx, end_exc, tru_bl, give, give_b, ders, der, arrD, List.getElem?_cons_zero, List.getElem?_cons_succ, List.set_cons_zero, List.set_cons_succ, if_true, if_false, Bool.false_eq_true, Bool.not_true, Bool.not_false, List.take_length,
      e_isi, k_isi, e_tin, k_tinP, k_tinN, e_tget, k_tget, g_star, i_zip, is_int_non, is_int_bl, is_int_int, is_int_str, is_int_tup, is_int_lst, is_int_dct, is_str_non, is_str_bl, is_str_int, is_str_str, is_str_tup, is_str_lst, is_str_dct, is_bool_non, is_bool_bl, is_bool_int, is_bool_str, is_bool_tup, is_bool_lst, is_bool_dct, is_tuple_non, is_tuple_bl, is_tuple_int, is_tuple_str, is_tuple_tup, is_tuple_lst, is_tuple_dct, is_list_non, is_list_bl, is_list_int, is_list_str, is_list_tup, is_list_lst, is_list_dct, is_dict_non, is_dict_bl, is_dict_int, is_dict_str, is_dict_tup, is_dict_lst, is_dict_dct,
      bfD, len_s, len_l, len_t, c_eq_ii, c_ne_ii, c_lt_ii, c_le_ii, c_gt_ii, c_ge_ii, c_is_non, c_isn_non, noneD, Int.cast_ofNat_Int, Int.reduceEq, Int.reduceLT, Int.reduceLE, decide_true, decide_false, kTup, kLst, pures, sizeLine_eq, Nat.reduceLeDiff, g_tupq, idx_q0, idx_q1, is_tuple_q, len_q, k_ivq]
          · have hd : decide (((D.str ⟨#[102, 111, 114, 103, 101, 116]⟩ :: ys).length : Int) = 4) = false := by rw [decide_eq_false_iff_not, List.length_cons]; omega
            simp only [List.length_cons] at hd
            simp only [List.map_cons, List.map_nil, List.length_cons, List.length_nil, List.replicate, List.cons_append, List.nil_append, List.append_nil, Nat.reduceAdd, Nat.reduceSub, Nat.zero_add,
      e_var, e_con, e_bin, k_bin1, k_bin2, e_neg, k_neg, e_not, k_not, e_and, k_and, e_or, k_or, e_cmp, k_cmp1, k_cmp2, e_chain, k_ch1, k_ch2, e_ite, k_ite, e_call, k_call1, k_call2, e_blt, k_blt, e_meth, k_meth1, k_meth2, e_tup, e_lst, e_dct0, e_dcd, e_idx, k_idx1, k_idx2, e_slc, k_slc1, k_slc2, k_slc3, o_none, o_some, k_o, e_new, k_new, e_lc, k_lc, lc_g, es_nil, es_cons, k_es1, k_es2, t_nil, t_cons, k_t, i_val, i_range, i_enum, k_ent, k_enl, enumD, s_par, k_par, setAll, k_body, k_turn, k_ivl, k_ivt, k_ivs,
      g_name, g_tup, g_sub, k_sub1, gs_nil, gs_cons, k_gs, s_asg, k_asg1, k_nx, s_expr, k_expr, s_ret, k_ret, s_iff, k_if, s_for, k_for, s_aug, s_pass, ss_nil, ss_cons, k_ss, bind_ok, bind_exc, bind_stuck, go_ok, go_exc, seq_nx, seq_rt, seq_exc, turn_nx, turn_rt, turn_exc, calm_ok', end_d, end_nx, end_exc, tru_bl, give, give_b, ders, der, arrD, List.getElem?_cons_zero, List.getElem?_cons_succ, List.set_cons_zero, List.set_cons_succ, if_true, if_false, Bool.false_eq_true, Bool.not_true, Bool.not_false, List.take_length,
      e_isi, k_isi, e_tin, k_tinP, k_tinN, e_tget, k_tget, g_star, i_zip, is_int_non, is_int_bl, is_int_int, is_int_str, is_int_tup, is_int_lst, is_int_dct, is_str_non, is_str_bl, is_str_int, is_str_str, is_str_tup, is_str_lst, is_str_dct, is_bool_non, is_bool_bl, is_bool_int, is_bool_str, is_bool_tup, is_bool_lst, is_bool_dct, is_tuple_non, is_tuple_bl, is_tuple_int, is_tuple_str, is_tuple_tup, is_tuple_lst, is_tuple_dct, is_list_non, is_list_bl, is_list_int, is_list_str, is_list_tup, is_list_lst, is_list_dct, is_dict_non, is_dict_bl, is_dict_int, is_dict_str, is_dict_tup, is_dict_lst, is_dict_dct,
      bfD, len_s, len_l, len_t, c_eq_ii, c_ne_ii, c_lt_ii, c_le_ii, c_gt_ii, c_ge_ii, c_is_non, c_isn_non, noneD, Int.cast_ofNat_Int, Int.reduceEq, Int.reduceLT, Int.reduceLE, decide_true, decide_false, kTup, kLst, pures, sizeLine_eq, Nat.reduceLeDiff, g_tupq, idx_q0, idx_q1, is_tuple_q, len_q, k_ivq, ix0, nd_forget, id_forget, ad_ncm, hd]
            rcases ys with _ | ⟨a, _ | ⟨b, _ | ⟨c, _ | ⟨d, _ | ⟨e, r⟩⟩⟩⟩⟩ <;> first | rfl | exact absurd rfl hn
        by_cases w5 : w = goS
        · have hw : w = ⟨#[103, 111]⟩ := w5
          subst hw
          clear w0 w1 w2 w3 w4 w5
          by_cases hn : ys.length = 1
          · obtain ⟨a, rfl⟩ : ∃ a, ys = [a] := by
              match ys, hn with
              | [a], _ => exact ⟨_, rfl⟩
            simp only [List.map_cons, List.map_nil, List.length_cons, List.length_nil, List.replicate, List.cons_append, List.nil_append, List.append_nil, Nat.reduceAdd, Nat.reduceSub, Nat.zero_add,
      e_var, e_con, e_bin, k_bin1, k_bin2, e_neg, k_neg, e_not, k_not, e_and, k_and, e_or, k_or, e_cmp, k_cmp1, k_cmp2, e_chain, k_ch1, k_ch2, e_ite, k_ite, e_call, k_call1, k_call2, e_blt, k_blt, e_meth, k_meth1, k_meth2, e_tup, e_lst, e_dct0, e_dcd, e_idx, k_idx1, k_idx2, e_slc, k_slc1, k_slc2, k_slc3, o_none, o_some, k_o, e_new, k_new, e_lc, k_lc, lc_g, es_nil, es_cons, k_es1, k_es2, t_nil, t_cons, k_t, i_val, i_range, i_enum, k_ent, k_enl, enumD, s_par, k_par, setAll, k_body, k_turn, k_ivl, k_ivt, k_ivs,
      g_name, g_tup, g_sub, k_sub1, gs_nil, gs_cons, k_gs, s_asg, k_asg1, k_nx, s_expr, k_expr, s_ret, k_ret, s_iff, k_if, s_for, k_for, s_aug, s_pass, ss_nil, ss_cons, k_ss, bind_ok, bind_exc, bind_stuck, go_ok, go_exc, seq_nx, seq_rt, seq_exc, turn_nx, turn_rt, turn_exc, calm_ok', end_d, end_nx, end_exc, tru_bl, give, give_b, ders, der, arrD, List.getElem?_cons_zero, List.getElem?_cons_succ, List.set_cons_zero, List.set_cons_succ, if_true, if_false, Bool.false_eq_true, Bool.not_true, Bool.not_false, List.take_length,
      e_isi, k_isi, e_tin, k_tinP, k_tinN, e_tget, k_tget, g_star, i_zip, is_int_non, is_int_bl, is_int_int, is_int_str, is_int_tup, is_int_lst, is_int_dct, is_str_non, is_str_bl, is_str_int, is_str_str, is_str_tup, is_str_lst, is_str_dct, is_bool_non, is_bool_bl, is_bool_int, is_bool_str, is_bool_tup, is_bool_lst, is_bool_dct, is_tuple_non, is_tuple_bl, is_tuple_int, is_tuple_str, is_tuple_tup, is_tuple_lst, is_tuple_dct, is_list_non, is_list_bl, is_list_int, is_list_str, is_list_tup, is_list_lst, is_list_dct, is_dict_non, is_dict_bl, is_dict_int, is_dict_str, is_dict_tup, is_dict_lst, is_dict_dct,
      bfD, len_s, len_l, len_t, c_eq_ii, c_ne_ii, c_lt_ii, c_le_ii, c_gt_ii, c_ge_ii, c_is_non, c_isn_non, noneD, Int.cast_ofNat_Int, Int.reduceEq, Int.reduceLT, Int.reduceLE, decide_true, decide_false, kTup, kLst, pures, sizeLine_eq, Nat.reduceLeDiff, g_tupq, idx_q0, idx_q1, is_tuple_q, len_q, k_ivq, ix0, nd_go, id_go, ad_n, sl_1, zip_ts, zipD, for_cons, lc_g, b30_n T L k, dd_go]
            cases g0 : nameD a <;> simp only [List.map_cons, List.map_nil, List.length_cons, List.length_nil, List.replicate, List.cons_append, List.nil_append, List.append_nil, Nat.reduceAdd, Nat.reduceSub, Nat.zero_add,
      e_var, e_con, e_bin, k_bin1, k_bin2, e_neg, k_neg, e_not, k_not, e_and, k_and, e_or, k_or, e_cmp, k_cmp1, k_cmp2, e_chain, k_ch1, k_ch2, e_ite, k_ite, e_call, k_call1, k_call2, e_blt, k_blt, e_meth, k_meth1, k_meth2, e_tup, e_lst, e_dct0, e_dcd, e_idx, k_idx1, k_idx2, e_slc, k_slc1, k_slc2, k_slc3, o_none, o_some, k_o, e_new, k_new, e_lc, k_lc, lc_g, es_nil, es_cons, k_es1, k_es2, t_nil, t_cons, k_t, i_val, i_range, i_enum, k_ent, k_enl, enumD, s_par, k_par, setAll, k_body, k_turn, k_ivl, k_ivt, k_ivs,
      g_name, g_tup, g_sub, k_sub1, gs_nil, gs_cons, k_gs, s_asg, k_asg1, k_nx, s_expr, k_expr, s_ret, k_ret, s_iff, k_if, s_for, k_for, s_aug, s_pass, ss_nil, ss_cons, k_ss, bind_ok, bind_exc, bind_stuck, go_ok, go_exc, seq_nx, seq_rt, seq_exc, turn_nx, turn_rt, turn_exc, calm_ok', end_d, end_nx, end_exc, tru_bl, give, give_b, ders, der, arrD, List.getElem?_cons_zero, List.getElem?_cons_succ, List.set_cons_zero, List.set_cons_succ, if_true, if_false, Bool.false_eq_true, Bool.not_true, Bool.not_false, List.take_length,
      e_isi, k_isi, e_tin, k_tinP, k_tinN, e_tget, k_tget, g_star, i_zip, is_int_non, is_int_bl, is_int_int, is_int_str, is_int_tup, is_int_lst, is_int_dct, is_str_non, is_str_bl, is_str_int, is_str_str, is_str_tup, is_str_lst, is_str_dct, is_bool_non, is_bool_bl, is_bool_int, is_bool_str, is_bool_tup, is_bool_lst, is_bool_dct, is_tuple_non, is_tuple_bl, is_tuple_int, is_tuple_str, is_tuple_tup, is_tuple_lst, is_tuple_dct, is_list_non, is_list_bl, is_list_int, is_list_str, is_list_tup, is_list_lst, is_list_dct, is_dict_non, is_dict_bl, is_dict_int, is_dict_str, is_dict_tup, is_dict_lst, is_dict_dct,
      bfD, len_s, len_l, len_t, c_eq_ii, c_ne_ii, c_lt_ii, c_le_ii, c_gt_ii, c_ge_ii, c_is_non, c_isn_non, noneD, Int.cast_ofNat_Int, Int.reduceEq, Int.reduceLT, Int.reduceLE, decide_true, decide_false, kTup, kLst, pures, sizeLine_eq, Nat.reduceLeDiff, g_tupq, idx_q0, idx_q1, is_tuple_q, len_q, k_ivq, for_cons, for_nil, lc_g, b30_n T L k, b30_m T L k, b30_c T L k, g0, ix0, Bool.true_and, Bool.and_true, Bool.false_and, Bool.and_false, nl_go]
          · have hd : decide (((D.str ⟨#[103, 111]⟩ :: ys).length : Int) = 2) = false := by rw [decide_eq_false_iff_not, List.length_cons]; omega
            simp only [List.length_cons] at hd
            simp only [List.map_cons, List.map_nil, List.length_cons, List.length_nil, List.replicate, List.cons_append, List.nil_append, List.append_nil, Nat.reduceAdd, Nat.reduceSub, Nat.zero_add,
      e_var, e_con, e_bin, k_bin1, k_bin2, e_neg, k_neg, e_not, k_not, e_and, k_and, e_or, k_or, e_cmp, k_cmp1, k_cmp2, e_chain, k_ch1, k_ch2, e_ite, k_ite, e_call, k_call1, k_call2, e_blt, k_blt, e_meth, k_meth1, k_meth2, e_tup, e_lst, e_dct0, e_dcd, e_idx, k_idx1, k_idx2, e_slc, k_slc1, k_slc2, k_slc3, o_none, o_some, k_o, e_new, k_new, e_lc, k_lc, lc_g, es_nil, es_cons, k_es1, k_es2, t_nil, t_cons, k_t, i_val, i_range, i_enum, k_ent, k_enl, enumD, s_par, k_par, setAll, k_body, k_turn, k_ivl, k_ivt, k_ivs,
      g_name, g_tup, g_sub, k_sub1, gs_nil, gs_cons, k_gs, s_asg, k_asg1, k_nx, s_expr, k_expr, s_ret, k_ret, s_iff, k_if, s_for, k_for, s_aug, s_pass, ss_nil, ss_cons, k_ss, bind_ok, bind_exc, bind_stuck, go_ok, go_exc, seq_nx, seq_rt, seq_exc, turn_nx, turn_rt, turn_exc, calm_ok', end_d, end_nx, end_exc, tru_bl, give, give_b, ders, der, arrD, List.getElem?_cons_zero, List.getElem?_cons_succ, List.set_cons_zero, List.set_cons_succ, if_true, if_false, Bool.false_eq_true, Bool.not_true, Bool.not_false, List.take_length,
      e_isi, k_isi, e_tin, k_tinP, k_tinN, e_tget, k_tget, g_star, i_zip, is_int_non, is_int_bl, is_int_int, is_int_str, is_int_tup, is_int_lst, is_int_dct, is_str_non, is_str_bl, is_str_int, is_str_str, is_str_tup, is_str_lst, is_str_dct, is_bool_non, is_bool_bl, is_bool_int, is_bool_str, is_bool_tup, is_bool_lst, is_bool_dct, is_tuple_non, is_tuple_bl, is_tuple_int, is_tuple_str, is_tuple_tup, is_tuple_lst, is_tuple_dct, is_list_non, is_list_bl, is_list_int, is_list_str, is_list_tup, is_list_lst, is_list_dct, is_dict_non, is_dict_bl, is_dict_int, is_dict_str, is_dict_tup, is_dict_lst, is_dict_dct,
      bfD, len_s, len_l, len_t, c_eq_ii, c_ne_ii, c_lt_ii, c_le_ii, c_gt_ii, c_ge_ii, c_is_non, c_isn_non, noneD, Int.cast_ofNat_Int, Int.reduceEq, Int.reduceLT, Int.reduceLE, decide_true, decide_false, kTup, kLst, pures, sizeLine_eq, Nat.reduceLeDiff, g_tupq, idx_q0, idx_q1, is_tuple_q, len_q, k_ivq, ix0, nd_go, id_go, ad_n, hd]
            rcases ys with _ | ⟨a, _ | ⟨b, _ | ⟨c, _ | ⟨d, _ | ⟨e, r⟩⟩⟩⟩⟩ <;> first | rfl | exact absurd rfl hn
        simp only [List.map_cons, List.map_nil, List.length_cons, List.length_nil, List.replicate, List.cons_append, List.nil_append, List.append_nil, Nat.reduceAdd, Nat.reduceSub, Nat.zero_add,
      e_var, e_con, e_bin, k_bin1, k_bin2, e_neg, k_neg, e_not, k_not, e_and, k_and, e_or, k_or, e_cmp, k_cmp1, k_cmp2, e_chain, k_ch1, k_ch2, e_ite, k_ite, e_call, k_call1, k_call2, e_blt, k_blt, e_meth, k_meth1, k_meth2, e_tup, e_lst, e_dct0, e_dcd, e_idx, k_idx1, k_idx2, e_slc, k_slc1, k_slc2, k_slc3, o_none, o_some, k_o, e_new, k_new, e_lc, k_lc, lc_g, es_nil, es_cons, k_es1, k_es2, t_nil, t_cons, k_t, i_val, i_range, i_enum, k_ent, k_enl, enumD, s_par, k_par, setAll, k_body, k_turn, k_ivl, k_ivt, k_ivs,
      g_name, g_tup, g_sub, k_sub1, gs_nil, gs_cons, k_gs, s_asg, k_asg1, k_nx, s_expr, k_expr, s_ret, k_ret, s_iff, k_if, s_for, k_for, s_aug, s_pass, ss_nil, ss_cons, k_ss, bind_ok, bind_exc, bind_stuck, go_ok, go_exc, seq_nx, seq_rt, seq_exc, turn_nx, turn_rt, turn_exc, calm_ok', end_d, end_nx, end_exc, tru_bl, give, give_b, ders, der, arrD, List.getElem?_cons_zero, List.getElem?_cons_succ, List.set_cons_zero, List.set_cons_succ, if_true, if_false, Bool.false_eq_true, Bool.not_true, Bool.not_false, List.take_length,
      e_isi, k_isi, e_tin, k_tinP, k_tinN, e_tget, k_tget, g_star, i_zip, is_int_non, is_int_bl, is_int_int, is_int_str, is_int_tup, is_int_lst, is_int_dct, is_str_non, is_str_bl, is_str_int, is_str_str, is_str_tup, is_str_lst, is_str_dct, is_bool_non, is_bool_bl, is_bool_int, is_bool_str, is_bool_tup, is_bool_lst, is_bool_dct, is_tuple_non, is_tuple_bl, is_tuple_int, is_tuple_str, is_tuple_tup, is_tuple_lst, is_tuple_dct, is_list_non, is_list_bl, is_list_int, is_list_str, is_list_tup, is_list_lst, is_list_dct, is_dict_non, is_dict_bl, is_dict_int, is_dict_str, is_dict_tup, is_dict_lst, is_dict_dct,
      bfD, len_s, len_l, len_t, c_eq_ii, c_ne_ii, c_lt_ii, c_le_ii, c_gt_ii, c_ge_ii, c_is_non, c_isn_non, noneD, Int.cast_ofNat_Int, Int.reduceEq, Int.reduceLT, Int.reduceLE, decide_true, decide_false, kTup, kLst, pures, sizeLine_eq, Nat.reduceLeDiff, g_tupq, idx_q0, idx_q1, is_tuple_q, len_q, k_ivq, ix0, nd_no w w0 w1 w2 w3 w4 w5]
        have e0 : (w == comeS) = false := beq_eq_false_iff_ne.mpr w0
        have e1 : (w == bringS) = false := beq_eq_false_iff_ne.mpr w1
        have e2 : (w == giveS) = false := beq_eq_false_iff_ne.mpr w2
        have e3 : (w == handS) = false := beq_eq_false_iff_ne.mpr w3
        have e4 : (w == forgetS) = false := beq_eq_false_iff_ne.mpr w4
        have e5 : (w == goS) = false := beq_eq_false_iff_ne.mpr w5
        unfold deedD
        split <;> first | rfl | (rename_i hh; cases hh; simp only [e0, e1, e2, e3, e4, e5, Bool.false_or, Bool.false_and, Bool.and_false, if_false, Bool.false_eq_true])
      | _ => simp only [List.map_cons, List.map_nil, List.length_cons, List.length_nil, List.replicate, List.cons_append, List.nil_append, List.append_nil, Nat.reduceAdd, Nat.reduceSub, Nat.zero_add,
      e_var, e_con, e_bin, k_bin1, k_bin2, e_neg, k_neg, e_not, k_not, e_and, k_and, e_or, k_or, e_cmp, k_cmp1, k_cmp2, e_chain, k_ch1, k_ch2, e_ite, k_ite, e_call, k_call1, k_call2, e_blt, k_blt, e_meth, k_meth1, k_meth2, e_tup, e_lst, e_dct0, e_dcd, e_idx, k_idx1, k_idx2, e_slc, k_slc1, k_slc2, k_slc3, o_none, o_some, k_o, e_new, k_new, e_lc, k_lc, lc_g, es_nil, es_cons, k_es1, k_es2, t_nil, t_cons, k_t, i_val, i_range, i_enum, k_ent, k_enl, enumD, s_par, k_par, setAll, k_body, k_turn, k_ivl, k_ivt, k_ivs,
      g_name, g_tup, g_sub, k_sub1, gs_nil, gs_cons, k_gs, s_asg, k_asg1, k_nx, s_expr, k_expr, s_ret, k_ret, s_iff, k_if, s_for, k_for, s_aug, s_pass, ss_nil, ss_cons, k_ss, bind_ok, bind_exc, bind_stuck, go_ok, go_exc, seq_nx, seq_rt, seq_exc, turn_nx, turn_rt, turn_exc, calm_ok', end_d, end_nx, end_exc, tru_bl, give, give_b, ders, der, arrD, List.getElem?_cons_zero, List.getElem?_cons_succ, List.set_cons_zero, List.set_cons_succ, if_true, if_false, Bool.false_eq_true, Bool.not_true, Bool.not_false, List.take_length,
      e_isi, k_isi, e_tin, k_tinP, k_tinN, e_tget, k_tget, g_star, i_zip, is_int_non, is_int_bl, is_int_int, is_int_str, is_int_tup, is_int_lst, is_int_dct, is_str_non, is_str_bl, is_str_int, is_str_str, is_str_tup, is_str_lst, is_str_dct, is_bool_non, is_bool_bl, is_bool_int, is_bool_str, is_bool_tup, is_bool_lst, is_bool_dct, is_tuple_non, is_tuple_bl, is_tuple_int, is_tuple_str, is_tuple_tup, is_tuple_lst, is_tuple_dct, is_list_non, is_list_bl, is_list_int, is_list_str, is_list_tup, is_list_lst, is_list_dct, is_dict_non, is_dict_bl, is_dict_int, is_dict_str, is_dict_tup, is_dict_lst, is_dict_dct,
      bfD, len_s, len_l, len_t, c_eq_ii, c_ne_ii, c_lt_ii, c_le_ii, c_gt_ii, c_ge_ii, c_is_non, c_isn_non, noneD, Int.cast_ofNat_Int, Int.reduceEq, Int.reduceLT, Int.reduceLE, decide_true, decide_false, kTup, kLst, pures, sizeLine_eq, Nat.reduceLeDiff, g_tupq, idx_q0, idx_q1, is_tuple_q, len_q, k_ivq] <;> simp only [deedD]
  | _ => simp only [List.map_cons, List.map_nil, List.length_cons, List.length_nil, List.replicate, List.cons_append, List.nil_append, List.append_nil, Nat.reduceAdd, Nat.reduceSub, Nat.zero_add,
      e_var, e_con, e_bin, k_bin1, k_bin2, e_neg, k_neg, e_not, k_not, e_and, k_and, e_or, k_or, e_cmp, k_cmp1, k_cmp2, e_chain, k_ch1, k_ch2, e_ite, k_ite, e_call, k_call1, k_call2, e_blt, k_blt, e_meth, k_meth1, k_meth2, e_tup, e_lst, e_dct0, e_dcd, e_idx, k_idx1, k_idx2, e_slc, k_slc1, k_slc2, k_slc3, o_none, o_some, k_o, e_new, k_new, e_lc, k_lc, lc_g, es_nil, es_cons, k_es1, k_es2, t_nil, t_cons, k_t, i_val, i_range, i_enum, k_ent, k_enl, enumD, s_par, k_par, setAll, k_body, k_turn, k_ivl, k_ivt, k_ivs,
      g_name, g_tup, g_sub, k_sub1, gs_nil, gs_cons, k_gs, s_asg, k_asg1, k_nx, s_expr, k_expr, s_ret, k_ret, s_iff, k_if, s_for, k_for, s_aug, s_pass, ss_nil, ss_cons, k_ss, bind_ok, bind_exc, bind_stuck, go_ok, go_exc, seq_nx, seq_rt, seq_exc, turn_nx, turn_rt, turn_exc, calm_ok', end_d, end_nx, end_exc, tru_bl, give, give_b, ders, der, arrD, List.getElem?_cons_zero, List.getElem?_cons_succ, List.set_cons_zero, List.set_cons_succ, if_true, if_false, Bool.false_eq_true, Bool.not_true, Bool.not_false, List.take_length,
      e_isi, k_isi, e_tin, k_tinP, k_tinN, e_tget, k_tget, g_star, i_zip, is_int_non, is_int_bl, is_int_int, is_int_str, is_int_tup, is_int_lst, is_int_dct, is_str_non, is_str_bl, is_str_int, is_str_str, is_str_tup, is_str_lst, is_str_dct, is_bool_non, is_bool_bl, is_bool_int, is_bool_str, is_bool_tup, is_bool_lst, is_bool_dct, is_tuple_non, is_tuple_bl, is_tuple_int, is_tuple_str, is_tuple_tup, is_tuple_lst, is_tuple_dct, is_list_non, is_list_bl, is_list_int, is_list_str, is_list_tup, is_list_lst, is_list_dct, is_dict_non, is_dict_bl, is_dict_int, is_dict_str, is_dict_tup, is_dict_lst, is_dict_dct,
      bfD, len_s, len_l, len_t, c_eq_ii, c_ne_ii, c_lt_ii, c_le_ii, c_gt_ii, c_ge_ii, c_is_non, c_isn_non, noneD, Int.cast_ofNat_Int, Int.reduceEq, Int.reduceLT, Int.reduceLE, decide_true, decide_false, kTup, kLst, pures, sizeLine_eq, Nat.reduceLeDiff, g_tupq, idx_q0, idx_q1, is_tuple_q, len_q, k_ivq] <;> simp only [deedD]
end
end TW
namespace TW
open PySem PySem.Spec PyProof.Rows L2
def bookD : D → Bool
  | .tup ds => decide ((ds.length : Int) ≤ 60) && ds.all deedD
  | _ => false
/-- a tuple's parts are no deeper than == looks -/
def Shal (x : D) : Prop := ∀ ds, x = .tup ds → ∀ d ∈ ds, ∀ xs, d = .tup xs → dep d ≤ 64
theorem c_ne_bb (a : Bool) : cmpD .NotEq (.bl a) (.bl a) = some false := by cases a <;> rfl
section
variable {t : Tbl} (T : Sub TC t) (L : Sub TL05 t) (k : Nat) {st : Sto}
include T L
theorem is_book_ok (x : D) : Fn t (k + 4) 29 [.d x] st = .ok (.d (.bl (bookD x))) st := by
  rw [fn_at L rfl]
  simp only [runF, startE, I29, List.map_cons, List.map_nil, List.length_cons, List.length_nil, List.replicate, List.cons_append, List.nil_append, List.append_nil, Nat.reduceAdd, Nat.reduceSub, Nat.zero_add,
      e_var, e_con, e_bin, k_bin1, k_bin2, e_neg, k_neg, e_not, k_not, e_and, k_and, e_or, k_or, e_cmp, k_cmp1, k_cmp2, e_chain, k_ch1, k_ch2, e_ite, k_ite, e_call, k_call1, k_call2, e_blt, k_blt, e_meth, k_meth1, k_meth2, e_tup, e_lst, e_dct0, e_dcd, e_idx, k_idx1, k_idx2, e_slc, k_slc1, k_slc2, k_slc3, o_none, o_some, k_o, e_new, k_new, e_lc, k_lc, lc_g, es_nil, es_cons, k_es1, k_es2, t_nil, t_cons, k_t, i_val, i_range, i_enum, k_ent, k_enl, enumD, s_par, k_par, setAll, k_body, k_turn, k_ivl, k_ivt, k_ivs,
      g_name, g_tup, g_sub, k_sub1, gs_nil, gs_cons, k_gs, s_asg, k_asg1, k_nx, s_expr, k_expr, s_ret, k_ret, s_iff, k_if, s_for, k_for, s_aug, s_pass, ss_nil, ss_cons, k_ss, bind_ok, bind_exc, bind_stuck, go_ok, go_exc, seq_nx, seq_rt, seq_exc, turn_nx, turn_rt, turn_exc, calm_ok', end_d, end_nx, end_exc, tru_bl, give, give_b, ders, der, arrD, List.getElem?_cons_zero, List.getElem?_cons_succ, List.set_cons_zero, List.set_cons_succ, if_true, if_false, Bool.false_eq_true, Bool.not_true, Bool.not_false, List.take_length,
      e_isi, k_isi, e_tin, k_tinP, k_tinN, e_tget, k_tget, g_star, i_zip, is_int_non, is_int_bl, is_int_int, is_int_str, is_int_tup, is_int_lst, is_int_dct, is_str_non, is_str_bl, is_str_int, is_str_str, is_str_tup, is_str_lst, is_str_dct, is_bool_non, is_bool_bl, is_bool_int, is_bool_str, is_bool_tup, is_bool_lst, is_bool_dct, is_tuple_non, is_tuple_bl, is_tuple_int, is_tuple_str, is_tuple_tup, is_tuple_lst, is_tuple_dct, is_list_non, is_list_bl, is_list_int, is_list_str, is_list_tup, is_list_lst, is_list_dct, is_dict_non, is_dict_bl, is_dict_int, is_dict_str, is_dict_tup, is_dict_lst, is_dict_dct,
      bfD, len_s, len_l, len_t, c_eq_ii, c_ne_ii, c_lt_ii, c_le_ii, c_gt_ii, c_ge_ii, c_is_non, c_isn_non, noneD, Int.cast_ofNat_Int, Int.reduceEq, Int.reduceLT, Int.reduceLE, decide_true, decide_false, kTup, kLst, pures, sizeLine_eq, Nat.reduceLeDiff, g_tupq, idx_q0, idx_q1, is_tuple_q, len_q, k_ivq]
  cases x with
  | tup ds =>
    have hb : bookD (.tup ds) = (decide ((ds.length : Int) ≤ 60) && ds.all deedD) := rfl
    rw [hb]
    cases h1 : decide ((ds.length : Int) ≤ 60) with
    | false => simp only [List.map_cons, List.map_nil, List.length_cons, List.length_nil, List.replicate, List.cons_append, List.nil_append, List.append_nil, Nat.reduceAdd, Nat.reduceSub, Nat.zero_add,
      e_var, e_con, e_bin, k_bin1, k_bin2, e_neg, k_neg, e_not, k_not, e_and, k_and, e_or, k_or, e_cmp, k_cmp1, k_cmp2, e_chain, k_ch1, k_ch2, e_ite, k_ite, e_call, k_call1, k_call2, e_blt, k_blt, e_meth, k_meth1, k_meth2, e_tup, e_lst, e_dct0, e_dcd, e_idx, k_idx1, k_idx2, e_slc, k_slc1, k_slc2, k_slc3, o_none, o_some, k_o, e_new, k_new, e_lc, k_lc, lc_g, es_nil, es_cons, k_es1, k_es2, t_nil, t_cons, k_t, i_val, i_range, i_enum, k_ent, k_enl, enumD, s_par, k_par, setAll, k_body, k_turn, k_ivl, k_ivt, k_ivs,
      g_name, g_tup, g_sub, k_sub1, gs_nil, gs_cons, k_gs, s_asg, k_asg1, k_nx, s_expr, k_expr, s_ret, k_ret, s_iff, k_if, s_for, k_for, s_aug, s_pass, ss_nil, ss_cons, k_ss, bind_ok, bind_exc, bind_stuck, go_ok, go_exc, seq_nx, seq_rt, seq_exc, turn_nx, turn_rt, turn_exc, calm_ok', end_d, end_nx, end_exc, tru_bl, give, give_b, ders, der, arrD, List.getElem?_cons_zero, List.getElem?_cons_succ, List.set_cons_zero, List.set_cons_succ, if_true, if_false, Bool.false_eq_true, Bool.not_true, Bool.not_false, List.take_length,
      e_isi, k_isi, e_tin, k_tinP, k_tinN, e_tget, k_tget, g_star, i_zip, is_int_non, is_int_bl, is_int_int, is_int_str, is_int_tup, is_int_lst, is_int_dct, is_str_non, is_str_bl, is_str_int, is_str_str, is_str_tup, is_str_lst, is_str_dct, is_bool_non, is_bool_bl, is_bool_int, is_bool_str, is_bool_tup, is_bool_lst, is_bool_dct, is_tuple_non, is_tuple_bl, is_tuple_int, is_tuple_str, is_tuple_tup, is_tuple_lst, is_tuple_dct, is_list_non, is_list_bl, is_list_int, is_list_str, is_list_tup, is_list_lst, is_list_dct, is_dict_non, is_dict_bl, is_dict_int, is_dict_str, is_dict_tup, is_dict_lst, is_dict_dct,
      bfD, len_s, len_l, len_t, c_eq_ii, c_ne_ii, c_lt_ii, c_le_ii, c_gt_ii, c_ge_ii, c_is_non, c_isn_non, noneD, Int.cast_ofNat_Int, Int.reduceEq, Int.reduceLT, Int.reduceLE, decide_true, decide_false, kTup, kLst, pures, sizeLine_eq, Nat.reduceLeDiff, g_tupq, idx_q0, idx_q1, is_tuple_q, len_q, k_ivq, h1, Bool.false_and]
    | true =>
      have h5 : ds.length ≤ 16777216 := by simp only [decide_eq_true_eq] at h1; omega
      have hl := lc_name (F := Fn t (k + 3)) (ps := []) (i := 1) (el := I29e1) (en := [some (.d (.tup ds)), none]) (st := st) (f := fun d => .bl (deedD d)) (pin_nil st) ds [] fun d _ => by
        simp only [I29e1, List.map_cons, List.map_nil, List.length_cons, List.length_nil, List.replicate, List.cons_append, List.nil_append, List.append_nil, Nat.reduceAdd, Nat.reduceSub, Nat.zero_add,
      e_var, e_con, e_bin, k_bin1, k_bin2, e_neg, k_neg, e_not, k_not, e_and, k_and, e_or, k_or, e_cmp, k_cmp1, k_cmp2, e_chain, k_ch1, k_ch2, e_ite, k_ite, e_call, k_call1, k_call2, e_blt, k_blt, e_meth, k_meth1, k_meth2, e_tup, e_lst, e_dct0, e_dcd, e_idx, k_idx1, k_idx2, e_slc, k_slc1, k_slc2, k_slc3, o_none, o_some, k_o, e_new, k_new, e_lc, k_lc, lc_g, es_nil, es_cons, k_es1, k_es2, t_nil, t_cons, k_t, i_val, i_range, i_enum, k_ent, k_enl, enumD, s_par, k_par, setAll, k_body, k_turn, k_ivl, k_ivt, k_ivs,
      g_name, g_tup, g_sub, k_sub1, gs_nil, gs_cons, k_gs, s_asg, k_asg1, k_nx, s_expr, k_expr, s_ret, k_ret, s_iff, k_if, s_for, k_for, s_aug, s_pass, ss_nil, ss_cons, k_ss, bind_ok, bind_exc, bind_stuck, go_ok, go_exc, seq_nx, seq_rt, seq_exc, turn_nx, turn_rt, turn_exc, calm_ok', end_d, end_nx, end_exc, tru_bl, give, give_b, ders, der, arrD, List.getElem?_cons_zero, List.getElem?_cons_succ, List.set_cons_zero, List.set_cons_succ, if_true, if_false, Bool.false_eq_true, Bool.not_true, Bool.not_false, List.take_length,
      e_isi, k_isi, e_tin, k_tinP, k_tinN, e_tget, k_tget, g_star, i_zip, is_int_non, is_int_bl, is_int_int, is_int_str, is_int_tup, is_int_lst, is_int_dct, is_str_non, is_str_bl, is_str_int, is_str_str, is_str_tup, is_str_lst, is_str_dct, is_bool_non, is_bool_bl, is_bool_int, is_bool_str, is_bool_tup, is_bool_lst, is_bool_dct, is_tuple_non, is_tuple_bl, is_tuple_int, is_tuple_str, is_tuple_tup, is_tuple_lst, is_tuple_dct, is_list_non, is_list_bl, is_list_int, is_list_str, is_list_tup, is_list_lst, is_list_dct, is_dict_non, is_dict_bl, is_dict_int, is_dict_str, is_dict_tup, is_dict_lst, is_dict_dct,
      bfD, len_s, len_l, len_t, c_eq_ii, c_ne_ii, c_lt_ii, c_le_ii, c_gt_ii, c_ge_ii, c_is_non, c_isn_non, noneD, Int.cast_ofNat_Int, Int.reduceEq, Int.reduceLT, Int.reduceLE, decide_true, decide_false, kTup, kLst, pures, sizeLine_eq, Nat.reduceLeDiff, g_tupq, idx_q0, idx_q1, is_tuple_q, len_q, k_ivq, is_deed_ok T L k]
      simp only [List.nil_append] at hl
      simp only [List.map_cons, List.map_nil, List.length_cons, List.length_nil, List.replicate, List.cons_append, List.nil_append, List.append_nil, Nat.reduceAdd, Nat.reduceSub, Nat.zero_add,
      e_var, e_con, e_bin, k_bin1, k_bin2, e_neg, k_neg, e_not, k_not, e_and, k_and, e_or, k_or, e_cmp, k_cmp1, k_cmp2, e_chain, k_ch1, k_ch2, e_ite, k_ite, e_call, k_call1, k_call2, e_blt, k_blt, e_meth, k_meth1, k_meth2, e_tup, e_lst, e_dct0, e_dcd, e_idx, k_idx1, k_idx2, e_slc, k_slc1, k_slc2, k_slc3, o_none, o_some, k_o, e_new, k_new, e_lc, k_lc, lc_g, es_nil, es_cons, k_es1, k_es2, t_nil, t_cons, k_t, i_val, i_range, i_enum, k_ent, k_enl, enumD, s_par, k_par, setAll, k_body, k_turn, k_ivl, k_ivt, k_ivs,
      g_name, g_tup, g_sub, k_sub1, gs_nil, gs_cons, k_gs, s_asg, k_asg1, k_nx, s_expr, k_expr, s_ret, k_ret, s_iff, k_if, s_for, k_for, s_aug, s_pass, ss_nil, ss_cons, k_ss, bind_ok, bind_exc, bind_stuck, go_ok, go_exc, seq_nx, seq_rt, seq_exc, turn_nx, turn_rt, turn_exc, calm_ok', end_d, end_nx, end_exc, tru_bl, give, give_b, ders, der, arrD, List.getElem?_cons_zero, List.getElem?_cons_succ, List.set_cons_zero, List.set_cons_succ, if_true, if_false, Bool.false_eq_true, Bool.not_true, Bool.not_false, List.take_length,
      e_isi, k_isi, e_tin, k_tinP, k_tinN, e_tget, k_tget, g_star, i_zip, is_int_non, is_int_bl, is_int_int, is_int_str, is_int_tup, is_int_lst, is_int_dct, is_str_non, is_str_bl, is_str_int, is_str_str, is_str_tup, is_str_lst, is_str_dct, is_bool_non, is_bool_bl, is_bool_int, is_bool_str, is_bool_tup, is_bool_lst, is_bool_dct, is_tuple_non, is_tuple_bl, is_tuple_int, is_tuple_str, is_tuple_tup, is_tuple_lst, is_tuple_dct, is_list_non, is_list_bl, is_list_int, is_list_str, is_list_tup, is_list_lst, is_list_dct, is_dict_non, is_dict_bl, is_dict_int, is_dict_str, is_dict_tup, is_dict_lst, is_dict_dct,
      bfD, len_s, len_l, len_t, c_eq_ii, c_ne_ii, c_lt_ii, c_le_ii, c_gt_ii, c_ge_ii, c_is_non, c_isn_non, noneD, Int.cast_ofNat_Int, Int.reduceEq, Int.reduceLT, Int.reduceLE, decide_true, decide_false, kTup, kLst, pures, sizeLine_eq, Nat.reduceLeDiff, g_tupq, idx_q0, idx_q1, is_tuple_q, len_q, k_ivq, h1, h5, wipeE, hl, all_map, Bool.true_and]
  | _ => simp only [List.map_cons, List.map_nil, List.length_cons, List.length_nil, List.replicate, List.cons_append, List.nil_append, List.append_nil, Nat.reduceAdd, Nat.reduceSub, Nat.zero_add,
      e_var, e_con, e_bin, k_bin1, k_bin2, e_neg, k_neg, e_not, k_not, e_and, k_and, e_or, k_or, e_cmp, k_cmp1, k_cmp2, e_chain, k_ch1, k_ch2, e_ite, k_ite, e_call, k_call1, k_call2, e_blt, k_blt, e_meth, k_meth1, k_meth2, e_tup, e_lst, e_dct0, e_dcd, e_idx, k_idx1, k_idx2, e_slc, k_slc1, k_slc2, k_slc3, o_none, o_some, k_o, e_new, k_new, e_lc, k_lc, lc_g, es_nil, es_cons, k_es1, k_es2, t_nil, t_cons, k_t, i_val, i_range, i_enum, k_ent, k_enl, enumD, s_par, k_par, setAll, k_body, k_turn, k_ivl, k_ivt, k_ivs,
      g_name, g_tup, g_sub, k_sub1, gs_nil, gs_cons, k_gs, s_asg, k_asg1, k_nx, s_expr, k_expr, s_ret, k_ret, s_iff, k_if, s_for, k_for, s_aug, s_pass, ss_nil, ss_cons, k_ss, bind_ok, bind_exc, bind_stuck, go_ok, go_exc, seq_nx, seq_rt, seq_exc, turn_nx, turn_rt, turn_exc, calm_ok', end_d, end_nx, end_exc, tru_bl, give, give_b, ders, der, arrD, List.getElem?_cons_zero, List.getElem?_cons_succ, List.set_cons_zero, List.set_cons_succ, if_true, if_false, Bool.false_eq_true, Bool.not_true, Bool.not_false, List.take_length,
      e_isi, k_isi, e_tin, k_tinP, k_tinN, e_tget, k_tget, g_star, i_zip, is_int_non, is_int_bl, is_int_int, is_int_str, is_int_tup, is_int_lst, is_int_dct, is_str_non, is_str_bl, is_str_int, is_str_str, is_str_tup, is_str_lst, is_str_dct, is_bool_non, is_bool_bl, is_bool_int, is_bool_str, is_bool_tup, is_bool_lst, is_bool_dct, is_tuple_non, is_tuple_bl, is_tuple_int, is_tuple_str, is_tuple_tup, is_tuple_lst, is_tuple_dct, is_list_non, is_list_bl, is_list_int, is_list_str, is_list_tup, is_list_lst, is_list_dct, is_dict_non, is_dict_bl, is_dict_int, is_dict_str, is_dict_tup, is_dict_lst, is_dict_dct,
      bfD, len_s, len_l, len_t, c_eq_ii, c_ne_ii, c_lt_ii, c_le_ii, c_gt_ii, c_ge_ii, c_is_non, c_isn_non, noneD, Int.cast_ofNat_Int, Int.reduceEq, Int.reduceLT, Int.reduceLE, decide_true, decide_false, kTup, kLst, pures, sizeLine_eq, Nat.reduceLeDiff, g_tupq, idx_q0, idx_q1, is_tuple_q, len_q, k_ivq, bookD]
theorem right_ok (x : D) (hx : Shal x) : Fn t (k + 5) 34 [.d x] st = .ok (.d (.bl true)) st := by
  rw [fn_at L rfl]
  have hdue : evE (Fn t (k + 4)) (.and (.isi (.var 0) "tuple") (.and (.cmp .Lt (.blt .len (.cons (.var 0) .nil)) (.con (.int 61))) (.blt .all (.cons (.lc I34e1 (.name 2) (.val (.var 0)) .nil [2]) .nil)))) [some (.d x), none, none, none] st = .ok (.d (.bl (bookD x))) st := by
    simp only [List.map_cons, List.map_nil, List.length_cons, List.length_nil, List.replicate, List.cons_append, List.nil_append, List.append_nil, Nat.reduceAdd, Nat.reduceSub, Nat.zero_add,
      e_var, e_con, e_bin, k_bin1, k_bin2, e_neg, k_neg, e_not, k_not, e_and, k_and, e_or, k_or, e_cmp, k_cmp1, k_cmp2, e_chain, k_ch1, k_ch2, e_ite, k_ite, e_call, k_call1, k_call2, e_blt, k_blt, e_meth, k_meth1, k_meth2, e_tup, e_lst, e_dct0, e_dcd, e_idx, k_idx1, k_idx2, e_slc, k_slc1, k_slc2, k_slc3, o_none, o_some, k_o, e_new, k_new, e_lc, k_lc, lc_g, es_nil, es_cons, k_es1, k_es2, t_nil, t_cons, k_t, i_val, i_range, i_enum, k_ent, k_enl, enumD, s_par, k_par, setAll, k_body, k_turn, k_ivl, k_ivt, k_ivs,
      g_name, g_tup, g_sub, k_sub1, gs_nil, gs_cons, k_gs, s_asg, k_asg1, k_nx, s_expr, k_expr, s_ret, k_ret, s_iff, k_if, s_for, k_for, s_aug, s_pass, ss_nil, ss_cons, k_ss, bind_ok, bind_exc, bind_stuck, go_ok, go_exc, seq_nx, seq_rt, seq_exc, turn_nx, turn_rt, turn_exc, calm_ok', end_d, end_nx, end_exc, tru_bl, give, give_b, ders, der, arrD, List.getElem?_cons_zero, List.getElem?_cons_succ, List.set_cons_zero, List.set_cons_succ, if_true, if_false, Bool.false_eq_true, Bool.not_true, Bool.not_false, List.take_length,
      e_isi, k_isi, e_tin, k_tinP, k_tinN, e_tget, k_tget, g_star, i_zip, is_int_non, is_int_bl, is_int_int, is_int_str, is_int_tup, is_int_lst, is_int_dct, is_str_non, is_str_bl, is_str_int, is_str_str, is_str_tup, is_str_lst, is_str_dct, is_bool_non, is_bool_bl, is_bool_int, is_bool_str, is_bool_tup, is_bool_lst, is_bool_dct, is_tuple_non, is_tuple_bl, is_tuple_int, is_tuple_str, is_tuple_tup, is_tuple_lst, is_tuple_dct, is_list_non, is_list_bl, is_list_int, is_list_str, is_list_tup, is_list_lst, is_list_dct, is_dict_non, is_dict_bl, is_dict_int, is_dict_str, is_dict_tup, is_dict_lst, is_dict_dct,
      bfD, len_s, len_l, len_t, c_eq_ii, c_ne_ii, c_lt_ii, c_le_ii, c_gt_ii, c_ge_ii, c_is_non, c_isn_non, noneD, Int.cast_ofNat_Int, Int.reduceEq, Int.reduceLT, Int.reduceLE, decide_true, decide_false, kTup, kLst, pures, sizeLine_eq, Nat.reduceLeDiff, g_tupq, idx_q0, idx_q1, is_tuple_q, len_q, k_ivq]
    cases x with
    | tup ds =>
      have g1 : decide ((ds.length : Int) ≤ 60) = decide ((ds.length : Int) < 61) := decide_eq_decide.mpr (by omega)
      have hb : bookD (.tup ds) = (decide ((ds.length : Int) < 61) && ds.all deedD) := by rw [← g1]; rfl
      rw [hb]
      cases h1 : decide ((ds.length : Int) < 61) with
      | false => simp only [List.map_cons, List.map_nil, List.length_cons, List.length_nil, List.replicate, List.cons_append, List.nil_append, List.append_nil, Nat.reduceAdd, Nat.reduceSub, Nat.zero_add,
      e_var, e_con, e_bin, k_bin1, k_bin2, e_neg, k_neg, e_not, k_not, e_and, k_and, e_or, k_or, e_cmp, k_cmp1, k_cmp2, e_chain, k_ch1, k_ch2, e_ite, k_ite, e_call, k_call1, k_call2, e_blt, k_blt, e_meth, k_meth1, k_meth2, e_tup, e_lst, e_dct0, e_dcd, e_idx, k_idx1, k_idx2, e_slc, k_slc1, k_slc2, k_slc3, o_none, o_some, k_o, e_new, k_new, e_lc, k_lc, lc_g, es_nil, es_cons, k_es1, k_es2, t_nil, t_cons, k_t, i_val, i_range, i_enum, k_ent, k_enl, enumD, s_par, k_par, setAll, k_body, k_turn, k_ivl, k_ivt, k_ivs,
      g_name, g_tup, g_sub, k_sub1, gs_nil, gs_cons, k_gs, s_asg, k_asg1, k_nx, s_expr, k_expr, s_ret, k_ret, s_iff, k_if, s_for, k_for, s_aug, s_pass, ss_nil, ss_cons, k_ss, bind_ok, bind_exc, bind_stuck, go_ok, go_exc, seq_nx, seq_rt, seq_exc, turn_nx, turn_rt, turn_exc, calm_ok', end_d, end_nx, end_exc, tru_bl, give, give_b, ders, der, arrD, List.getElem?_cons_zero, List.getElem?_cons_succ, List.set_cons_zero, List.set_cons_succ, if_true, if_false, Bool.false_eq_true, Bool.not_true, Bool.not_false, List.take_length,
      e_isi, k_isi, e_tin, k_tinP, k_tinN, e_tget, k_tget, g_star, i_zip, is_int_non, is_int_bl, is_int_int, is_int_str, is_int_tup, is_int_lst, is_int_dct, is_str_non, is_str_bl, is_str_int, is_str_str, is_str_tup, is_str_lst, is_str_dct, is_bool_non, is_bool_bl, is_bool_int, is_bool_str, is_bool_tup, is_bool_lst, is_bool_dct, is_tuple_non, is_tuple_bl, is_tuple_int, is_tuple_str, is_tuple_tup, is_tuple_lst, is_tuple_dct, is_list_non, is_list_bl, is_list_int, is_list_str, is_list_tup, is_list_lst, is_list_dct, is_dict_non, is_dict_bl, is_dict_int, is_dict_str, is_dict_tup, is_dict_lst, is_dict_dct,
      bfD, len_s, len_l, len_t, c_eq_ii, c_ne_ii, c_lt_ii, c_le_ii, c_gt_ii, c_ge_ii, c_is_non, c_isn_non, noneD, Int.cast_ofNat_Int, Int.reduceEq, Int.reduceLT, Int.reduceLE, decide_true, decide_false, kTup, kLst, pures, sizeLine_eq, Nat.reduceLeDiff, g_tupq, idx_q0, idx_q1, is_tuple_q, len_q, k_ivq, h1, Bool.false_and]
      | true =>
        have h5 : ds.length ≤ 16777216 := by simp only [decide_eq_true_eq] at h1; omega
        have hl := lc_name (F := Fn t (k + 4)) (ps := []) (i := 2) (el := I34e1) (en := [some (.d (.tup ds)), none, none, none]) (st := st) (f := fun d => .bl (deedD d)) (pin_nil st) ds [] fun d hd => by
          simp only [I34e1, List.map_cons, List.map_nil, List.length_cons, List.length_nil, List.replicate, List.cons_append, List.nil_append, List.append_nil, Nat.reduceAdd, Nat.reduceSub, Nat.zero_add,
      e_var, e_con, e_bin, k_bin1, k_bin2, e_neg, k_neg, e_not, k_not, e_and, k_and, e_or, k_or, e_cmp, k_cmp1, k_cmp2, e_chain, k_ch1, k_ch2, e_ite, k_ite, e_call, k_call1, k_call2, e_blt, k_blt, e_meth, k_meth1, k_meth2, e_tup, e_lst, e_dct0, e_dcd, e_idx, k_idx1, k_idx2, e_slc, k_slc1, k_slc2, k_slc3, o_none, o_some, k_o, e_new, k_new, e_lc, k_lc, lc_g, es_nil, es_cons, k_es1, k_es2, t_nil, t_cons, k_t, i_val, i_range, i_enum, k_ent, k_enl, enumD, s_par, k_par, setAll, k_body, k_turn, k_ivl, k_ivt, k_ivs,
      g_name, g_tup, g_sub, k_sub1, gs_nil, gs_cons, k_gs, s_asg, k_asg1, k_nx, s_expr, k_expr, s_ret, k_ret, s_iff, k_if, s_for, k_for, s_aug, s_pass, ss_nil, ss_cons, k_ss, bind_ok, bind_exc, bind_stuck, go_ok, go_exc, seq_nx, seq_rt, seq_exc, turn_nx, turn_rt, turn_exc, calm_ok', end_d, end_nx, end_exc, tru_bl, give, give_b, ders, der, arrD, List.getElem?_cons_zero, List.getElem?_cons_succ, List.set_cons_zero, List.set_cons_succ, if_true, if_false, Bool.false_eq_true, Bool.not_true, Bool.not_false, List.take_length,
      e_isi, k_isi, e_tin, k_tinP, k_tinN, e_tget, k_tget, g_star, i_zip, is_int_non, is_int_bl, is_int_int, is_int_str, is_int_tup, is_int_lst, is_int_dct, is_str_non, is_str_bl, is_str_int, is_str_str, is_str_tup, is_str_lst, is_str_dct, is_bool_non, is_bool_bl, is_bool_int, is_bool_str, is_bool_tup, is_bool_lst, is_bool_dct, is_tuple_non, is_tuple_bl, is_tuple_int, is_tuple_str, is_tuple_tup, is_tuple_lst, is_tuple_dct, is_list_non, is_list_bl, is_list_int, is_list_str, is_list_tup, is_list_lst, is_list_dct, is_dict_non, is_dict_bl, is_dict_int, is_dict_str, is_dict_tup, is_dict_lst, is_dict_dct,
      bfD, len_s, len_l, len_t, c_eq_ii, c_ne_ii, c_lt_ii, c_le_ii, c_gt_ii, c_ge_ii, c_is_non, c_isn_non, noneD, Int.cast_ofNat_Int, Int.reduceEq, Int.reduceLT, Int.reduceLE, decide_true, decide_false, kTup, kLst, pures, sizeLine_eq, Nat.reduceLeDiff, g_tupq, idx_q0, idx_q1, is_tuple_q, len_q, k_ivq, law_deed_ok T L (k + 2) d fun xs e => hx ds rfl d hd xs e]
        simp only [List.nil_append] at hl
        simp only [List.map_cons, List.map_nil, List.length_cons, List.length_nil, List.replicate, List.cons_append, List.nil_append, List.append_nil, Nat.reduceAdd, Nat.reduceSub, Nat.zero_add,
      e_var, e_con, e_bin, k_bin1, k_bin2, e_neg, k_neg, e_not, k_not, e_and, k_and, e_or, k_or, e_cmp, k_cmp1, k_cmp2, e_chain, k_ch1, k_ch2, e_ite, k_ite, e_call, k_call1, k_call2, e_blt, k_blt, e_meth, k_meth1, k_meth2, e_tup, e_lst, e_dct0, e_dcd, e_idx, k_idx1, k_idx2, e_slc, k_slc1, k_slc2, k_slc3, o_none, o_some, k_o, e_new, k_new, e_lc, k_lc, lc_g, es_nil, es_cons, k_es1, k_es2, t_nil, t_cons, k_t, i_val, i_range, i_enum, k_ent, k_enl, enumD, s_par, k_par, setAll, k_body, k_turn, k_ivl, k_ivt, k_ivs,
      g_name, g_tup, g_sub, k_sub1, gs_nil, gs_cons, k_gs, s_asg, k_asg1, k_nx, s_expr, k_expr, s_ret, k_ret, s_iff, k_if, s_for, k_for, s_aug, s_pass, ss_nil, ss_cons, k_ss, bind_ok, bind_exc, bind_stuck, go_ok, go_exc, seq_nx, seq_rt, seq_exc, turn_nx, turn_rt, turn_exc, calm_ok', end_d, end_nx, end_exc, tru_bl, give, give_b, ders, der, arrD, List.getElem?_cons_zero, List.getElem?_cons_succ, List.set_cons_zero, List.set_cons_succ, if_true, if_false, Bool.false_eq_true, Bool.not_true, Bool.not_false, List.take_length,
      e_isi, k_isi, e_tin, k_tinP, k_tinN, e_tget, k_tget, g_star, i_zip, is_int_non, is_int_bl, is_int_int, is_int_str, is_int_tup, is_int_lst, is_int_dct, is_str_non, is_str_bl, is_str_int, is_str_str, is_str_tup, is_str_lst, is_str_dct, is_bool_non, is_bool_bl, is_bool_int, is_bool_str, is_bool_tup, is_bool_lst, is_bool_dct, is_tuple_non, is_tuple_bl, is_tuple_int, is_tuple_str, is_tuple_tup, is_tuple_lst, is_tuple_dct, is_list_non, is_list_bl, is_list_int, is_list_str, is_list_tup, is_list_lst, is_list_dct, is_dict_non, is_dict_bl, is_dict_int, is_dict_str, is_dict_tup, is_dict_lst, is_dict_dct,
      bfD, len_s, len_l, len_t, c_eq_ii, c_ne_ii, c_lt_ii, c_le_ii, c_gt_ii, c_ge_ii, c_is_non, c_isn_non, noneD, Int.cast_ofNat_Int, Int.reduceEq, Int.reduceLT, Int.reduceLE, decide_true, decide_false, kTup, kLst, pures, sizeLine_eq, Nat.reduceLeDiff, g_tupq, idx_q0, idx_q1, is_tuple_q, len_q, k_ivq, h1, h5, wipeE, hl, all_map, Bool.true_and]
    | _ => simp only [List.map_cons, List.map_nil, List.length_cons, List.length_nil, List.replicate, List.cons_append, List.nil_append, List.append_nil, Nat.reduceAdd, Nat.reduceSub, Nat.zero_add,
      e_var, e_con, e_bin, k_bin1, k_bin2, e_neg, k_neg, e_not, k_not, e_and, k_and, e_or, k_or, e_cmp, k_cmp1, k_cmp2, e_chain, k_ch1, k_ch2, e_ite, k_ite, e_call, k_call1, k_call2, e_blt, k_blt, e_meth, k_meth1, k_meth2, e_tup, e_lst, e_dct0, e_dcd, e_idx, k_idx1, k_idx2, e_slc, k_slc1, k_slc2, k_slc3, o_none, o_some, k_o, e_new, k_new, e_lc, k_lc, lc_g, es_nil, es_cons, k_es1, k_es2, t_nil, t_cons, k_t, i_val, i_range, i_enum, k_ent, k_enl, enumD, s_par, k_par, setAll, k_body, k_turn, k_ivl, k_ivt, k_ivs,
      g_name, g_tup, g_sub, k_sub1, gs_nil, gs_cons, k_gs, s_asg, k_asg1, k_nx, s_expr, k_expr, s_ret, k_ret, s_iff, k_if, s_for, k_for, s_aug, s_pass, ss_nil, ss_cons, k_ss, bind_ok, bind_exc, bind_stuck, go_ok, go_exc, seq_nx, seq_rt, seq_exc, turn_nx, turn_rt, turn_exc, calm_ok', end_d, end_nx, end_exc, tru_bl, give, give_b, ders, der, arrD, List.getElem?_cons_zero, List.getElem?_cons_succ, List.set_cons_zero, List.set_cons_succ, if_true, if_false, Bool.false_eq_true, Bool.not_true, Bool.not_false, List.take_length,
      e_isi, k_isi, e_tin, k_tinP, k_tinN, e_tget, k_tget, g_star, i_zip, is_int_non, is_int_bl, is_int_int, is_int_str, is_int_tup, is_int_lst, is_int_dct, is_str_non, is_str_bl, is_str_int, is_str_str, is_str_tup, is_str_lst, is_str_dct, is_bool_non, is_bool_bl, is_bool_int, is_bool_str, is_bool_tup, is_bool_lst, is_bool_dct, is_tuple_non, is_tuple_bl, is_tuple_int, is_tuple_str, is_tuple_tup, is_tuple_lst, is_tuple_dct, is_list_non, is_list_bl, is_list_int, is_list_str, is_list_tup, is_list_lst, is_list_dct, is_dict_non, is_dict_bl, is_dict_int, is_dict_str, is_dict_tup, is_dict_lst, is_dict_dct,
      bfD, len_s, len_l, len_t, c_eq_ii, c_ne_ii, c_lt_ii, c_le_ii, c_gt_ii, c_ge_ii, c_is_non, c_isn_non, noneD, Int.cast_ofNat_Int, Int.reduceEq, Int.reduceLT, Int.reduceLE, decide_true, decide_false, kTup, kLst, pures, sizeLine_eq, Nat.reduceLeDiff, g_tupq, idx_q0, idx_q1, is_tuple_q, len_q, k_ivq, bookD]
  simp only [runF, startE, I34, ss_cons, s_asg, List.map_cons, List.map_nil, List.length_cons, List.length_nil, List.replicate, List.cons_append, List.nil_append, List.append_nil, Nat.reduceAdd, Nat.reduceSub, Nat.zero_add,
      e_var, e_con, e_bin, k_bin1, k_bin2, e_neg, k_neg, e_not, k_not, e_and, k_and, e_or, k_or, e_cmp, k_cmp1, k_cmp2, e_chain, k_ch1, k_ch2, e_ite, k_ite, e_call, k_call1, k_call2, e_blt, k_blt, e_meth, k_meth1, k_meth2, e_tup, e_lst, e_dct0, e_dcd, e_idx, k_idx1, k_idx2, e_slc, k_slc1, k_slc2, k_slc3, o_none, o_some, k_o, e_new, k_new, e_lc, k_lc, lc_g, es_nil, es_cons, k_es1, k_es2, t_nil, t_cons, k_t, i_val, i_range, i_enum, k_ent, k_enl, enumD, s_par, k_par, setAll, k_body, k_turn, k_ivl, k_ivt, k_ivs,
      g_name, g_tup, g_sub, k_sub1, gs_nil, gs_cons, k_gs, s_asg, k_asg1, k_nx, s_expr, k_expr, s_ret, k_ret, s_iff, k_if, s_for, k_for, s_aug, s_pass, ss_nil, ss_cons, k_ss, bind_ok, bind_exc, bind_stuck, go_ok, go_exc, seq_nx, seq_rt, seq_exc, turn_nx, turn_rt, turn_exc, calm_ok', end_d, end_nx, end_exc, tru_bl, give, give_b, ders, der, arrD, List.getElem?_cons_zero, List.getElem?_cons_succ, List.set_cons_zero, List.set_cons_succ, if_true, if_false, Bool.false_eq_true, Bool.not_true, Bool.not_false, List.take_length,
      e_isi, k_isi, e_tin, k_tinP, k_tinN, e_tget, k_tget, g_star, i_zip, is_int_non, is_int_bl, is_int_int, is_int_str, is_int_tup, is_int_lst, is_int_dct, is_str_non, is_str_bl, is_str_int, is_str_str, is_str_tup, is_str_lst, is_str_dct, is_bool_non, is_bool_bl, is_bool_int, is_bool_str, is_bool_tup, is_bool_lst, is_bool_dct, is_tuple_non, is_tuple_bl, is_tuple_int, is_tuple_str, is_tuple_tup, is_tuple_lst, is_tuple_dct, is_list_non, is_list_bl, is_list_int, is_list_str, is_list_tup, is_list_lst, is_list_dct, is_dict_non, is_dict_bl, is_dict_int, is_dict_str, is_dict_tup, is_dict_lst, is_dict_dct,
      bfD, len_s, len_l, len_t, c_eq_ii, c_ne_ii, c_lt_ii, c_le_ii, c_gt_ii, c_ge_ii, c_is_non, c_isn_non, noneD, Int.cast_ofNat_Int, Int.reduceEq, Int.reduceLT, Int.reduceLE, decide_true, decide_false, kTup, kLst, pures, sizeLine_eq, Nat.reduceLeDiff, g_tupq, idx_q0, idx_q1, is_tuple_q, len_q, k_ivq] at hdue ⊢
  simp only [hdue, List.map_cons, List.map_nil, List.length_cons, List.length_nil, List.replicate, List.cons_append, List.nil_append, List.append_nil, Nat.reduceAdd, Nat.reduceSub, Nat.zero_add,
      e_var, e_con, e_bin, k_bin1, k_bin2, e_neg, k_neg, e_not, k_not, e_and, k_and, e_or, k_or, e_cmp, k_cmp1, k_cmp2, e_chain, k_ch1, k_ch2, e_ite, k_ite, e_call, k_call1, k_call2, e_blt, k_blt, e_meth, k_meth1, k_meth2, e_tup, e_lst, e_dct0, e_dcd, e_idx, k_idx1, k_idx2, e_slc, k_slc1, k_slc2, k_slc3, o_none, o_some, k_o, e_new, k_new, e_lc, k_lc, lc_g, es_nil, es_cons, k_es1, k_es2, t_nil, t_cons, k_t, i_val, i_range, i_enum, k_ent, k_enl, enumD, s_par, k_par, setAll, k_body, k_turn, k_ivl, k_ivt, k_ivs,
      g_name, g_tup, g_sub, k_sub1, gs_nil, gs_cons, k_gs, s_asg, k_asg1, k_nx, s_expr, k_expr, s_ret, k_ret, s_iff, k_if, s_for, k_for, s_aug, s_pass, ss_nil, ss_cons, k_ss, bind_ok, bind_exc, bind_stuck, go_ok, go_exc, seq_nx, seq_rt, seq_exc, turn_nx, turn_rt, turn_exc, calm_ok', end_d, end_nx, end_exc, tru_bl, give, give_b, ders, der, arrD, List.getElem?_cons_zero, List.getElem?_cons_succ, List.set_cons_zero, List.set_cons_succ, if_true, if_false, Bool.false_eq_true, Bool.not_true, Bool.not_false, List.take_length,
      e_isi, k_isi, e_tin, k_tinP, k_tinN, e_tget, k_tget, g_star, i_zip, is_int_non, is_int_bl, is_int_int, is_int_str, is_int_tup, is_int_lst, is_int_dct, is_str_non, is_str_bl, is_str_int, is_str_str, is_str_tup, is_str_lst, is_str_dct, is_bool_non, is_bool_bl, is_bool_int, is_bool_str, is_bool_tup, is_bool_lst, is_bool_dct, is_tuple_non, is_tuple_bl, is_tuple_int, is_tuple_str, is_tuple_tup, is_tuple_lst, is_tuple_dct, is_list_non, is_list_bl, is_list_int, is_list_str, is_list_tup, is_list_lst, is_list_dct, is_dict_non, is_dict_bl, is_dict_int, is_dict_str, is_dict_tup, is_dict_lst, is_dict_dct,
      bfD, len_s, len_l, len_t, c_eq_ii, c_ne_ii, c_lt_ii, c_le_ii, c_gt_ii, c_ge_ii, c_is_non, c_isn_non, noneD, Int.cast_ofNat_Int, Int.reduceEq, Int.reduceLT, Int.reduceLE, decide_true, decide_false, kTup, kLst, pures, sizeLine_eq, Nat.reduceLeDiff, g_tupq, idx_q0, idx_q1, is_tuple_q, len_q, k_ivq, is_book_ok T L k, for_cons, for_nil, I34b1, c_ne_bb]
end
end TW
namespace TW
open PySem PySem.Spec PyProof.Rows L2
theorem strs_one : ∀ (cs : List Nat), strsD (cs.map fun c => D.str ⟨#[c]⟩) = some (cs.map fun c => (⟨#[c]⟩ : Str))
  | [] => rfl
  | c :: cs => by simp only [List.map_cons, strsD, strs_one cs]
theorem sum_one : ∀ (cs : List Nat), ((cs.map fun c => (⟨#[c]⟩ : Str)).map (·.length)).sum = cs.length
  | [] => rfl
  | c :: cs => by
    rw [List.map_cons, List.map_cons, List.sum_cons, sum_one cs, List.length_cons]
    show 1 + cs.length = _
    omega
theorem join_one (cs : List Nat) (h : cs.length ≤ 100) : ∃ s : Str, joinD (.str ⟨#[]⟩) [.lst (cs.map fun c => D.str ⟨#[c]⟩)] = some (.str s) ∧ s.length ≤ cs.length := by
  refine ⟨Txt.join ⟨#[]⟩ (cs.map fun c => (⟨#[c]⟩ : Str)), ?_, ?_⟩
  · simp only [joinD, strs_one]
    rw [if_pos]
    rw [sum_one]
    show cs.length + _ * 0 ≤ _
    omega
  · have := join_len ⟨#[]⟩ (cs.map fun c => (⟨#[c]⟩ : Str))
    rw [sum_one] at this
    exact Nat.le_trans this (by show cs.length + _ * 0 ≤ _; omega)
theorem add_i (i j : Int) : binD .Add (.int i) (.int j) = some (.int (i + j)) := id rfl
theorem ix_c (s : Str) (r : Nat) (h : r < s.cps.toList.length) : ∃ c, idxD (.str s) (.int r) = some (.str ⟨#[c]⟩) := by
  refine ⟨s.cps.toList[r], ?_⟩
  simp only [idxD, atI_nat (List.getElem?_eq_getElem h)]
theorem in_come : cmpD .In (.str ⟨#[99, 111, 109, 101]⟩) (.lst [.str ⟨#[99, 111, 109, 101]⟩, .str ⟨#[103, 111]⟩]) = some true := id rfl
theorem eb_come : cmpD .Eq (.str ⟨#[99, 111, 109, 101]⟩) (.str ⟨#[98, 114, 105, 110, 103]⟩) = some false := id rfl
theorem ef_come : cmpD .Eq (.str ⟨#[99, 111, 109, 101]⟩) (.str ⟨#[102, 111, 114, 103, 101, 116]⟩) = some false := id rfl
theorem eh_come : cmpD .Eq (.str ⟨#[99, 111, 109, 101]⟩) (.str ⟨#[104, 97, 110, 100]⟩) = some false := id rfl
theorem in_bring : cmpD .In (.str ⟨#[98, 114, 105, 110, 103]⟩) (.lst [.str ⟨#[99, 111, 109, 101]⟩, .str ⟨#[103, 111]⟩]) = some false := id rfl
theorem eb_bring : cmpD .Eq (.str ⟨#[98, 114, 105, 110, 103]⟩) (.str ⟨#[98, 114, 105, 110, 103]⟩) = some true := id rfl
theorem ef_bring : cmpD .Eq (.str ⟨#[98, 114, 105, 110, 103]⟩) (.str ⟨#[102, 111, 114, 103, 101, 116]⟩) = some false := id rfl
theorem eh_bring : cmpD .Eq (.str ⟨#[98, 114, 105, 110, 103]⟩) (.str ⟨#[104, 97, 110, 100]⟩) = some false := id rfl
theorem in_give : cmpD .In (.str ⟨#[103, 105, 118, 101]⟩) (.lst [.str ⟨#[99, 111, 109, 101]⟩, .str ⟨#[103, 111]⟩]) = some false := id rfl
theorem eb_give : cmpD .Eq (.str ⟨#[103, 105, 118, 101]⟩) (.str ⟨#[98, 114, 105, 110, 103]⟩) = some false := id rfl
theorem ef_give : cmpD .Eq (.str ⟨#[103, 105, 118, 101]⟩) (.str ⟨#[102, 111, 114, 103, 101, 116]⟩) = some false := id rfl
theorem eh_give : cmpD .Eq (.str ⟨#[103, 105, 118, 101]⟩) (.str ⟨#[104, 97, 110, 100]⟩) = some false := id rfl
theorem in_hand : cmpD .In (.str ⟨#[104, 97, 110, 100]⟩) (.lst [.str ⟨#[99, 111, 109, 101]⟩, .str ⟨#[103, 111]⟩]) = some false := id rfl
theorem eb_hand : cmpD .Eq (.str ⟨#[104, 97, 110, 100]⟩) (.str ⟨#[98, 114, 105, 110, 103]⟩) = some false := id rfl
theorem ef_hand : cmpD .Eq (.str ⟨#[104, 97, 110, 100]⟩) (.str ⟨#[102, 111, 114, 103, 101, 116]⟩) = some false := id rfl
theorem eh_hand : cmpD .Eq (.str ⟨#[104, 97, 110, 100]⟩) (.str ⟨#[104, 97, 110, 100]⟩) = some true := id rfl
theorem in_forget : cmpD .In (.str ⟨#[102, 111, 114, 103, 101, 116]⟩) (.lst [.str ⟨#[99, 111, 109, 101]⟩, .str ⟨#[103, 111]⟩]) = some false := id rfl
theorem eb_forget : cmpD .Eq (.str ⟨#[102, 111, 114, 103, 101, 116]⟩) (.str ⟨#[98, 114, 105, 110, 103]⟩) = some false := id rfl
theorem ef_forget : cmpD .Eq (.str ⟨#[102, 111, 114, 103, 101, 116]⟩) (.str ⟨#[102, 111, 114, 103, 101, 116]⟩) = some true := id rfl
theorem eh_forget : cmpD .Eq (.str ⟨#[102, 111, 114, 103, 101, 116]⟩) (.str ⟨#[104, 97, 110, 100]⟩) = some false := id rfl
theorem in_go : cmpD .In (.str ⟨#[103, 111]⟩) (.lst [.str ⟨#[99, 111, 109, 101]⟩, .str ⟨#[103, 111]⟩]) = some true := id rfl
theorem eb_go : cmpD .Eq (.str ⟨#[103, 111]⟩) (.str ⟨#[98, 114, 105, 110, 103]⟩) = some false := id rfl
theorem ef_go : cmpD .Eq (.str ⟨#[103, 111]⟩) (.str ⟨#[102, 111, 114, 103, 101, 116]⟩) = some false := id rfl
theorem eh_go : cmpD .Eq (.str ⟨#[103, 111]⟩) (.str ⟨#[104, 97, 110, 100]⟩) = some false := id rfl
theorem ix_w (r : Nat) (h : (r : Int) < 6) : ∃ w : Str, idxD (.lst [.str ⟨#[99, 111, 109, 101]⟩, .str ⟨#[98, 114, 105, 110, 103]⟩, .str ⟨#[103, 105, 118, 101]⟩, .str ⟨#[104, 97, 110, 100]⟩, .str ⟨#[102, 111, 114, 103, 101, 116]⟩, .str ⟨#[103, 111]⟩]) (.int r) = some (.str w) ∧ (w = ⟨#[99, 111, 109, 101]⟩ ∨ w = ⟨#[98, 114, 105, 110, 103]⟩ ∨ w = ⟨#[103, 105, 118, 101]⟩ ∨ w = ⟨#[104, 97, 110, 100]⟩ ∨ w = ⟨#[102, 111, 114, 103, 101, 116]⟩ ∨ w = ⟨#[103, 111]⟩) := by
  have h' : r < 6 := by omega
  match r, h' with
  | 0, _ => exact ⟨_, rfl, Or.inl rfl⟩
  | 1, _ => exact ⟨_, rfl, Or.inr (Or.inl rfl)⟩
  | 2, _ => exact ⟨_, rfl, Or.inr (Or.inr (Or.inl rfl))⟩
  | 3, _ => exact ⟨_, rfl, Or.inr (Or.inr (Or.inr (Or.inl rfl)))⟩
  | 4, _ => exact ⟨_, rfl, Or.inr (Or.inr (Or.inr (Or.inr (Or.inl rfl))))⟩
  | 5, _ => exact ⟨_, rfl, Or.inr (Or.inr (Or.inr (Or.inr (Or.inr (rfl)))))⟩
theorem ix_m (r : Nat) (v : Int) (h : (r : Int) < 3) : ∃ m : Int, idxD (.lst [.int 1, .int 9999, .int v]) (.int r) = some (.int m) := by
  have h' : r < 3 := by omega
  match r, h' with
  | 0, _ => exact ⟨_, rfl⟩
  | 1, _ => exact ⟨_, rfl⟩
  | 2, _ => exact ⟨_, rfl⟩
theorem add_s (a b : Str) (h : a.length + b.length ≤ 16777216) : binD .Add (.str a) (.str b) = some (.str (a ++ b)) := by
  simp only [binD, sizeLine_eq, h, if_true]
theorem add_t (a b : List D) (h : a.length + b.length ≤ 16777216) : binD .Add (.tup a) (.tup b) = some (.tup (a ++ b)) := by
  simp only [binD, sizeLine_eq, h, if_true]
theorem int_t : intD [.bl true] = some (.int 1) := id rfl
theorem int_f : intD [.bl false] = some (.int 0) := id rfl
theorem mul_1 (x : D) : binD .Mult (.tup [x]) (.int 1) = some (.tup [x]) := id rfl
theorem mul_0 (x : D) : binD .Mult (.tup [x]) (.int 0) = some (.tup []) := id rfl
theorem kir2 (st : Sto) : kIr (.d (.int 2)) st = .ok ⟨[.int 0, .int 1], []⟩ st := kirN 2 st (by decide)
theorem add30 (a b c : D) : binD .Add (.tup [a, b, c]) (.tup []) = some (.tup [a, b, c]) := id rfl
theorem add31 (a b c d : D) : binD .Add (.tup [a, b, c]) (.tup [d]) = some (.tup [a, b, c, d]) := id rfl
theorem add41 (a b c d e : D) : binD .Add (.tup [a, b, c, d]) (.tup [e]) = some (.tup [a, b, c, d, e]) := id rfl
section
variable {t : Tbl} (T : Sub TC t) (L : Sub TL05 t) (k : Nat) {st : Sto}
include T L
theorem name_new {n : Nat} (P : PoolAt n st) (x1 x2 x4 x5 x6 x7 : Option Vv) : ∃ (s : Str) (st' : Sto), evE (Fn t (k + 1)) I31e2 [some (.ref n), x1, x2, none, x4, x5, x6, x7] st = .ok (.d (.str s)) st' ∧ Drawn n st st' ∧ s.length ≤ 3 := by
  obtain ⟨r, s1, e1, d1, l1⟩ := take_ok T k P (many := 3) (b := 10) (by decide) (by decide) (by decide)
  have P1 := d1.pool P
  obtain ⟨ys, s2, e2, ⟨d2, cs, rfl⟩, l2⟩ := lc_invN (F := Fn t (k + 1)) (i := 3) (el := I31e1) (en := [some (.ref n), x1, x2, none, x4, x5, x6, x7]) (I := fun acc st' => Drawn n st st' ∧ ∃ cs : List Nat, acc = cs.map fun c => D.str ⟨#[c]⟩) ((List.range (1 + r)).map fun (i : Nat) => D.int i) [] s1 ⟨d1, [], rfl⟩ (by
    rintro x hx acc s ⟨d, cs, rfl⟩
    obtain ⟨r', s', e', d', l'⟩ := take_ok T k (d.pool P) (many := 4) (b := 10) (by decide) (by decide) (by decide)
    obtain ⟨c, hc⟩ := ix_c ⟨#[97, 98, 99, 122]⟩ r' (by show r' < 4; omega)
    refine ⟨.str ⟨#[c]⟩, s', ?_, d.trans d', cs ++ [c], by simp⟩
    simp only [I31e1, List.map_cons, List.map_nil, List.length_cons, List.length_nil, List.replicate, List.cons_append, List.nil_append, List.append_nil, Nat.reduceAdd, Nat.reduceSub, Nat.zero_add,
      e_var, e_con, e_bin, k_bin1, k_bin2, e_neg, k_neg, e_not, k_not, e_and, k_and, e_or, k_or, e_cmp, k_cmp1, k_cmp2, e_chain, k_ch1, k_ch2, e_ite, k_ite, e_call, k_call1, k_call2, e_blt, k_blt, e_meth, k_meth1, k_meth2, e_tup, e_lst, e_dct0, e_dcd, e_idx, k_idx1, k_idx2, e_slc, k_slc1, k_slc2, k_slc3, o_none, o_some, k_o, e_new, k_new, e_lc, k_lc, lc_g, es_nil, es_cons, k_es1, k_es2, t_nil, t_cons, k_t, i_val, i_range, i_enum, k_ent, k_enl, enumD, s_par, k_par, setAll, k_body, k_turn, k_ivl, k_ivt, k_ivs,
      g_name, g_tup, g_sub, k_sub1, gs_nil, gs_cons, k_gs, s_asg, k_asg1, k_nx, s_expr, k_expr, s_ret, k_ret, s_iff, k_if, s_for, k_for, s_aug, s_pass, ss_nil, ss_cons, k_ss, bind_ok, bind_exc, bind_stuck, go_ok, go_exc, seq_nx, seq_rt, seq_exc, turn_nx, turn_rt, turn_exc, calm_ok', end_d, end_nx, end_exc, tru_bl, give, give_b, ders, der, arrD, List.getElem?_cons_zero, List.getElem?_cons_succ, List.set_cons_zero, List.set_cons_succ, if_true, if_false, Bool.false_eq_true, Bool.not_true, Bool.not_false, List.take_length,
      e_isi, k_isi, e_tin, k_tinP, k_tinN, e_tget, k_tget, g_star, i_zip, is_int_non, is_int_bl, is_int_int, is_int_str, is_int_tup, is_int_lst, is_int_dct, is_str_non, is_str_bl, is_str_int, is_str_str, is_str_tup, is_str_lst, is_str_dct, is_bool_non, is_bool_bl, is_bool_int, is_bool_str, is_bool_tup, is_bool_lst, is_bool_dct, is_tuple_non, is_tuple_bl, is_tuple_int, is_tuple_str, is_tuple_tup, is_tuple_lst, is_tuple_dct, is_list_non, is_list_bl, is_list_int, is_list_str, is_list_tup, is_list_lst, is_list_dct, is_dict_non, is_dict_bl, is_dict_int, is_dict_str, is_dict_tup, is_dict_lst, is_dict_dct,
      bfD, len_s, len_l, len_t, c_eq_ii, c_ne_ii, c_lt_ii, c_le_ii, c_gt_ii, c_ge_ii, c_is_non, c_isn_non, noneD, Int.cast_ofNat_Int, Int.reduceEq, Int.reduceLT, Int.reduceLE, decide_true, decide_false, kTup, kLst, pures, sizeLine_eq, Nat.reduceLeDiff, g_tupq, idx_q0, idx_q1, is_tuple_q, len_q, k_ivq, e', hc])
  have l3 : cs.length ≤ 3 := by simp at l2; omega
  obtain ⟨s, q1, q2⟩ := join_one cs (by omega)
  refine ⟨s, s2, ?_, d2, by omega⟩
  have hz : ((List.range (1 + r)).map fun (i : Nat) => D.int i).length ≤ 16777216 := by simp; omega
  have hk : kIr (.d (.int (1 + (r : Int)))) s1 = .ok ⟨(List.range (1 + r)).map fun (i : Nat) => D.int i, []⟩ s1 := by
    have := kirN (1 + r) s1 (by omega)
    simpa using this
  simp only [I31e2, List.map_cons, List.map_nil, List.length_cons, List.length_nil, List.replicate, List.cons_append, List.nil_append, List.append_nil, Nat.reduceAdd, Nat.reduceSub, Nat.zero_add,
      e_var, e_con, e_bin, k_bin1, k_bin2, e_neg, k_neg, e_not, k_not, e_and, k_and, e_or, k_or, e_cmp, k_cmp1, k_cmp2, e_chain, k_ch1, k_ch2, e_ite, k_ite, e_call, k_call1, k_call2, e_blt, k_blt, e_meth, k_meth1, k_meth2, e_tup, e_lst, e_dct0, e_dcd, e_idx, k_idx1, k_idx2, e_slc, k_slc1, k_slc2, k_slc3, o_none, o_some, k_o, e_new, k_new, e_lc, k_lc, lc_g, es_nil, es_cons, k_es1, k_es2, t_nil, t_cons, k_t, i_val, i_range, i_enum, k_ent, k_enl, enumD, s_par, k_par, setAll, k_body, k_turn, k_ivl, k_ivt, k_ivs,
      g_name, g_tup, g_sub, k_sub1, gs_nil, gs_cons, k_gs, s_asg, k_asg1, k_nx, s_expr, k_expr, s_ret, k_ret, s_iff, k_if, s_for, k_for, s_aug, s_pass, ss_nil, ss_cons, k_ss, bind_ok, bind_exc, bind_stuck, go_ok, go_exc, seq_nx, seq_rt, seq_exc, turn_nx, turn_rt, turn_exc, calm_ok', end_d, end_nx, end_exc, tru_bl, give, give_b, ders, der, arrD, List.getElem?_cons_zero, List.getElem?_cons_succ, List.set_cons_zero, List.set_cons_succ, if_true, if_false, Bool.false_eq_true, Bool.not_true, Bool.not_false, List.take_length,
      e_isi, k_isi, e_tin, k_tinP, k_tinN, e_tget, k_tget, g_star, i_zip, is_int_non, is_int_bl, is_int_int, is_int_str, is_int_tup, is_int_lst, is_int_dct, is_str_non, is_str_bl, is_str_int, is_str_str, is_str_tup, is_str_lst, is_str_dct, is_bool_non, is_bool_bl, is_bool_int, is_bool_str, is_bool_tup, is_bool_lst, is_bool_dct, is_tuple_non, is_tuple_bl, is_tuple_int, is_tuple_str, is_tuple_tup, is_tuple_lst, is_tuple_dct, is_list_non, is_list_bl, is_list_int, is_list_str, is_list_tup, is_list_lst, is_list_dct, is_dict_non, is_dict_bl, is_dict_int, is_dict_str, is_dict_tup, is_dict_lst, is_dict_dct,
      bfD, len_s, len_l, len_t, c_eq_ii, c_ne_ii, c_lt_ii, c_le_ii, c_gt_ii, c_ge_ii, c_is_non, c_isn_non, noneD, Int.cast_ofNat_Int, Int.reduceEq, Int.reduceLT, Int.reduceLE, decide_true, decide_false, kTup, kLst, pures, sizeLine_eq, Nat.reduceLeDiff, g_tupq, idx_q0, idx_q1, is_tuple_q, len_q, k_ivq, e1, add_i, hk, hz, wipeE, e2, recv, isTxt, doM, opm, q1]
theorem deed_new {n : Nat} (P : PoolAt n st) : ∃ (xs : List D) (st' : Sto), Fn t (k + 2) 31 [.ref n] st = .ok (.d (.tup xs)) st' ∧ Drawn n st st' ∧ deps xs = 0 ∧ 0 < xs.length ∧ xs.length ≤ 6 := by
  rw [fn_at L rfl]
  obtain ⟨r1, s1, e1, d1, l1⟩ := take_ok T k P (many := 6) (b := 10) (by decide) (by decide) (by decide)
  obtain ⟨w, f1, hw⟩ := ix_w r1 l1
  obtain ⟨ys, s2, e2, ⟨d2, hy⟩, l2⟩ := lc_invN (F := Fn t (k + 1)) (i := 4) (el := I31e2) (en := [some (.ref n), some (.d (.str w)), none, none, none, none, none, none]) (I := fun acc st' => Drawn n st st' ∧ ∀ d ∈ acc, ∃ s : Str, d = .str s ∧ s.length ≤ 3) [.int 0, .int 1] [] s1 ⟨d1, fun _ h => nomatch h⟩ (by
    rintro x hx acc s ⟨d, h⟩
    obtain ⟨z, s', e', d', l'⟩ := name_new T L k (d.pool P) (some (.d (.str w))) none (some (.d x)) none none none
    refine ⟨.str z, s', e', d.trans d', fun y hy => ?_⟩
    rcases List.mem_append.mp hy with q | q
    · exact h y q
    · rw [List.mem_singleton.mp q]; exact ⟨z, rfl, l'⟩)
  obtain ⟨a, b, rfl⟩ : ∃ a b, ys = [a, b] := by
    match ys, l2 with
    | [a, b], _ => exact ⟨a, b, rfl⟩
  obtain ⟨sa, rfl, la⟩ := hy a (by simp)
  obtain ⟨sb, rfl, lb⟩ := hy b (by simp)
  obtain ⟨r3, s3, e3, d3, l3⟩ := take_ok T k (d2.pool P) (many := 9999) (b := 20) (by decide) (by decide) (by decide)
  have D3 := d2.trans d3
  obtain ⟨r4, s4, e4, d4, l4⟩ := take_ok T k (D3.pool P) (many := 3) (b := 10) (by decide) (by decide) (by decide)
  have D4 := D3.trans d4
  obtain ⟨m, f4⟩ := ix_m r4 (1 + r3) l4
  have f5 : binD .Add (.str sb) (.str ⟨#[121]⟩) = some (.str (sb ++ ⟨#[121]⟩)) := add_s _ _ (by show sb.length + 1 ≤ _; omega)
  simp only [runF, startE, I31, List.map_cons, List.map_nil, List.length_cons, List.length_nil, List.replicate, List.cons_append, List.nil_append, List.append_nil, Nat.reduceAdd, Nat.reduceSub, Nat.zero_add,
      e_var, e_con, e_bin, k_bin1, k_bin2, e_neg, k_neg, e_not, k_not, e_and, k_and, e_or, k_or, e_cmp, k_cmp1, k_cmp2, e_chain, k_ch1, k_ch2, e_ite, k_ite, e_call, k_call1, k_call2, e_blt, k_blt, e_meth, k_meth1, k_meth2, e_tup, e_lst, e_dct0, e_dcd, e_idx, k_idx1, k_idx2, e_slc, k_slc1, k_slc2, k_slc3, o_none, o_some, k_o, e_new, k_new, e_lc, k_lc, lc_g, es_nil, es_cons, k_es1, k_es2, t_nil, t_cons, k_t, i_val, i_range, i_enum, k_ent, k_enl, enumD, s_par, k_par, setAll, k_body, k_turn, k_ivl, k_ivt, k_ivs,
      g_name, g_tup, g_sub, k_sub1, gs_nil, gs_cons, k_gs, s_asg, k_asg1, k_nx, s_expr, k_expr, s_ret, k_ret, s_iff, k_if, s_for, k_for, s_aug, s_pass, ss_nil, ss_cons, k_ss, bind_ok, bind_exc, bind_stuck, go_ok, go_exc, seq_nx, seq_rt, seq_exc, turn_nx, turn_rt, turn_exc, calm_ok', end_d, end_nx, end_exc, tru_bl, give, give_b, ders, der, arrD, List.getElem?_cons_zero, List.getElem?_cons_succ, List.set_cons_zero, List.set_cons_succ, if_true, if_false, Bool.false_eq_true, Bool.not_true, Bool.not_false, List.take_length,
      e_isi, k_isi, e_tin, k_tinP, k_tinN, e_tget, k_tget, g_star, i_zip, is_int_non, is_int_bl, is_int_int, is_int_str, is_int_tup, is_int_lst, is_int_dct, is_str_non, is_str_bl, is_str_int, is_str_str, is_str_tup, is_str_lst, is_str_dct, is_bool_non, is_bool_bl, is_bool_int, is_bool_str, is_bool_tup, is_bool_lst, is_bool_dct, is_tuple_non, is_tuple_bl, is_tuple_int, is_tuple_str, is_tuple_tup, is_tuple_lst, is_tuple_dct, is_list_non, is_list_bl, is_list_int, is_list_str, is_list_tup, is_list_lst, is_list_dct, is_dict_non, is_dict_bl, is_dict_int, is_dict_str, is_dict_tup, is_dict_lst, is_dict_dct,
      bfD, len_s, len_l, len_t, c_eq_ii, c_ne_ii, c_lt_ii, c_le_ii, c_gt_ii, c_ge_ii, c_is_non, c_isn_non, noneD, Int.cast_ofNat_Int, Int.reduceEq, Int.reduceLT, Int.reduceLE, decide_true, decide_false, kTup, kLst, pures, sizeLine_eq, Nat.reduceLeDiff, g_tupq, idx_q0, idx_q1, is_tuple_q, len_q, k_ivq, e1, f1, kir2, wipeE, e2, il0, il1, f5, e3, add_i, e4, f4]
  rcases hw with rfl | rfl | rfl | rfl | rfl | rfl
  · simp only [List.map_cons, List.map_nil, List.length_cons, List.length_nil, List.replicate, List.cons_append, List.nil_append, List.append_nil, Nat.reduceAdd, Nat.reduceSub, Nat.zero_add,
      e_var, e_con, e_bin, k_bin1, k_bin2, e_neg, k_neg, e_not, k_not, e_and, k_and, e_or, k_or, e_cmp, k_cmp1, k_cmp2, e_chain, k_ch1, k_ch2, e_ite, k_ite, e_call, k_call1, k_call2, e_blt, k_blt, e_meth, k_meth1, k_meth2, e_tup, e_lst, e_dct0, e_dcd, e_idx, k_idx1, k_idx2, e_slc, k_slc1, k_slc2, k_slc3, o_none, o_some, k_o, e_new, k_new, e_lc, k_lc, lc_g, es_nil, es_cons, k_es1, k_es2, t_nil, t_cons, k_t, i_val, i_range, i_enum, k_ent, k_enl, enumD, s_par, k_par, setAll, k_body, k_turn, k_ivl, k_ivt, k_ivs,
      g_name, g_tup, g_sub, k_sub1, gs_nil, gs_cons, k_gs, s_asg, k_asg1, k_nx, s_expr, k_expr, s_ret, k_ret, s_iff, k_if, s_for, k_for, s_aug, s_pass, ss_nil, ss_cons, k_ss, bind_ok, bind_exc, bind_stuck, go_ok, go_exc, seq_nx, seq_rt, seq_exc, turn_nx, turn_rt, turn_exc, calm_ok', end_d, end_nx, end_exc, tru_bl, give, give_b, ders, der, arrD, List.getElem?_cons_zero, List.getElem?_cons_succ, List.set_cons_zero, List.set_cons_succ, if_true, if_false, Bool.false_eq_true, Bool.not_true, Bool.not_false, List.take_length,
      e_isi, k_isi, e_tin, k_tinP, k_tinN, e_tget, k_tget, g_star, i_zip, is_int_non, is_int_bl, is_int_int, is_int_str, is_int_tup, is_int_lst, is_int_dct, is_str_non, is_str_bl, is_str_int, is_str_str, is_str_tup, is_str_lst, is_str_dct, is_bool_non, is_bool_bl, is_bool_int, is_bool_str, is_bool_tup, is_bool_lst, is_bool_dct, is_tuple_non, is_tuple_bl, is_tuple_int, is_tuple_str, is_tuple_tup, is_tuple_lst, is_tuple_dct, is_list_non, is_list_bl, is_list_int, is_list_str, is_list_tup, is_list_lst, is_list_dct, is_dict_non, is_dict_bl, is_dict_int, is_dict_str, is_dict_tup, is_dict_lst, is_dict_dct,
      bfD, len_s, len_l, len_t, c_eq_ii, c_ne_ii, c_lt_ii, c_le_ii, c_gt_ii, c_ge_ii, c_is_non, c_isn_non, noneD, Int.cast_ofNat_Int, Int.reduceEq, Int.reduceLT, Int.reduceLE, decide_true, decide_false, kTup, kLst, pures, sizeLine_eq, Nat.reduceLeDiff, g_tupq, idx_q0, idx_q1, is_tuple_q, len_q, k_ivq, in_come, eb_come, ef_come, eh_come, int_f, int_t, mul_0, mul_1, add30, add31, add41, D4.take]
    exact ⟨_, _, rfl, D4, rfl, by simp, by simp⟩
  · simp only [List.map_cons, List.map_nil, List.length_cons, List.length_nil, List.replicate, List.cons_append, List.nil_append, List.append_nil, Nat.reduceAdd, Nat.reduceSub, Nat.zero_add,
      e_var, e_con, e_bin, k_bin1, k_bin2, e_neg, k_neg, e_not, k_not, e_and, k_and, e_or, k_or, e_cmp, k_cmp1, k_cmp2, e_chain, k_ch1, k_ch2, e_ite, k_ite, e_call, k_call1, k_call2, e_blt, k_blt, e_meth, k_meth1, k_meth2, e_tup, e_lst, e_dct0, e_dcd, e_idx, k_idx1, k_idx2, e_slc, k_slc1, k_slc2, k_slc3, o_none, o_some, k_o, e_new, k_new, e_lc, k_lc, lc_g, es_nil, es_cons, k_es1, k_es2, t_nil, t_cons, k_t, i_val, i_range, i_enum, k_ent, k_enl, enumD, s_par, k_par, setAll, k_body, k_turn, k_ivl, k_ivt, k_ivs,
      g_name, g_tup, g_sub, k_sub1, gs_nil, gs_cons, k_gs, s_asg, k_asg1, k_nx, s_expr, k_expr, s_ret, k_ret, s_iff, k_if, s_for, k_for, s_aug, s_pass, ss_nil, ss_cons, k_ss, bind_ok, bind_exc, bind_stuck, go_ok, go_exc, seq_nx, seq_rt, seq_exc, turn_nx, turn_rt, turn_exc, calm_ok', end_d, end_nx, end_exc, tru_bl, give, give_b, ders, der, arrD, List.getElem?_cons_zero, List.getElem?_cons_succ, List.set_cons_zero, List.set_cons_succ, if_true, if_false, Bool.false_eq_true, Bool.not_true, Bool.not_false, List.take_length,
      e_isi, k_isi, e_tin, k_tinP, k_tinN, e_tget, k_tget, g_star, i_zip, is_int_non, is_int_bl, is_int_int, is_int_str, is_int_tup, is_int_lst, is_int_dct, is_str_non, is_str_bl, is_str_int, is_str_str, is_str_tup, is_str_lst, is_str_dct, is_bool_non, is_bool_bl, is_bool_int, is_bool_str, is_bool_tup, is_bool_lst, is_bool_dct, is_tuple_non, is_tuple_bl, is_tuple_int, is_tuple_str, is_tuple_tup, is_tuple_lst, is_tuple_dct, is_list_non, is_list_bl, is_list_int, is_list_str, is_list_tup, is_list_lst, is_list_dct, is_dict_non, is_dict_bl, is_dict_int, is_dict_str, is_dict_tup, is_dict_lst, is_dict_dct,
      bfD, len_s, len_l, len_t, c_eq_ii, c_ne_ii, c_lt_ii, c_le_ii, c_gt_ii, c_ge_ii, c_is_non, c_isn_non, noneD, Int.cast_ofNat_Int, Int.reduceEq, Int.reduceLT, Int.reduceLE, decide_true, decide_false, kTup, kLst, pures, sizeLine_eq, Nat.reduceLeDiff, g_tupq, idx_q0, idx_q1, is_tuple_q, len_q, k_ivq, in_bring, eb_bring, ef_bring, eh_bring, int_f, int_t, mul_0, mul_1, add30, add31, add41, D4.take]
    exact ⟨_, _, rfl, D4, rfl, by simp, by simp⟩
  · simp only [List.map_cons, List.map_nil, List.length_cons, List.length_nil, List.replicate, List.cons_append, List.nil_append, List.append_nil, Nat.reduceAdd, Nat.reduceSub, Nat.zero_add,
      e_var, e_con, e_bin, k_bin1, k_bin2, e_neg, k_neg, e_not, k_not, e_and, k_and, e_or, k_or, e_cmp, k_cmp1, k_cmp2, e_chain, k_ch1, k_ch2, e_ite, k_ite, e_call, k_call1, k_call2, e_blt, k_blt, e_meth, k_meth1, k_meth2, e_tup, e_lst, e_dct0, e_dcd, e_idx, k_idx1, k_idx2, e_slc, k_slc1, k_slc2, k_slc3, o_none, o_some, k_o, e_new, k_new, e_lc, k_lc, lc_g, es_nil, es_cons, k_es1, k_es2, t_nil, t_cons, k_t, i_val, i_range, i_enum, k_ent, k_enl, enumD, s_par, k_par, setAll, k_body, k_turn, k_ivl, k_ivt, k_ivs,
      g_name, g_tup, g_sub, k_sub1, gs_nil, gs_cons, k_gs, s_asg, k_asg1, k_nx, s_expr, k_expr, s_ret, k_ret, s_iff, k_if, s_for, k_for, s_aug, s_pass, ss_nil, ss_cons, k_ss, bind_ok, bind_exc, bind_stuck, go_ok, go_exc, seq_nx, seq_rt, seq_exc, turn_nx, turn_rt, turn_exc, calm_ok', end_d, end_nx, end_exc, tru_bl, give, give_b, ders, der, arrD, List.getElem?_cons_zero, List.getElem?_cons_succ, List.set_cons_zero, List.set_cons_succ, if_true, if_false, Bool.false_eq_true, Bool.not_true, Bool.not_false, List.take_length,
      e_isi, k_isi, e_tin, k_tinP, k_tinN, e_tget, k_tget, g_star, i_zip, is_int_non, is_int_bl, is_int_int, is_int_str, is_int_tup, is_int_lst, is_int_dct, is_str_non, is_str_bl, is_str_int, is_str_str, is_str_tup, is_str_lst, is_str_dct, is_bool_non, is_bool_bl, is_bool_int, is_bool_str, is_bool_tup, is_bool_lst, is_bool_dct, is_tuple_non, is_tuple_bl, is_tuple_int, is_tuple_str, is_tuple_tup, is_tuple_lst, is_tuple_dct, is_list_non, is_list_bl, is_list_int, is_list_str, is_list_tup, is_list_lst, is_list_dct, is_dict_non, is_dict_bl, is_dict_int, is_dict_str, is_dict_tup, is_dict_lst, is_dict_dct,
      bfD, len_s, len_l, len_t, c_eq_ii, c_ne_ii, c_lt_ii, c_le_ii, c_gt_ii, c_ge_ii, c_is_non, c_isn_non, noneD, Int.cast_ofNat_Int, Int.reduceEq, Int.reduceLT, Int.reduceLE, decide_true, decide_false, kTup, kLst, pures, sizeLine_eq, Nat.reduceLeDiff, g_tupq, idx_q0, idx_q1, is_tuple_q, len_q, k_ivq, in_give, eb_give, ef_give, eh_give, int_f, int_t, mul_0, mul_1, add30, add31, add41, D4.take]
    exact ⟨_, _, rfl, D4, rfl, by simp, by simp⟩
  · simp only [List.map_cons, List.map_nil, List.length_cons, List.length_nil, List.replicate, List.cons_append, List.nil_append, List.append_nil, Nat.reduceAdd, Nat.reduceSub, Nat.zero_add,
      e_var, e_con, e_bin, k_bin1, k_bin2, e_neg, k_neg, e_not, k_not, e_and, k_and, e_or, k_or, e_cmp, k_cmp1, k_cmp2, e_chain, k_ch1, k_ch2, e_ite, k_ite, e_call, k_call1, k_call2, e_blt, k_blt, e_meth, k_meth1, k_meth2, e_tup, e_lst, e_dct0, e_dcd, e_idx, k_idx1, k_idx2, e_slc, k_slc1, k_slc2, k_slc3, o_none, o_some, k_o, e_new, k_new, e_lc, k_lc, lc_g, es_nil, es_cons, k_es1, k_es2, t_nil, t_cons, k_t, i_val, i_range, i_enum, k_ent, k_enl, enumD, s_par, k_par, setAll, k_body, k_turn, k_ivl, k_ivt, k_ivs,
      g_name, g_tup, g_sub, k_sub1, gs_nil, gs_cons, k_gs, s_asg, k_asg1, k_nx, s_expr, k_expr, s_ret, k_ret, s_iff, k_if, s_for, k_for, s_aug, s_pass, ss_nil, ss_cons, k_ss, bind_ok, bind_exc, bind_stuck, go_ok, go_exc, seq_nx, seq_rt, seq_exc, turn_nx, turn_rt, turn_exc, calm_ok', end_d, end_nx, end_exc, tru_bl, give, give_b, ders, der, arrD, List.getElem?_cons_zero, List.getElem?_cons_succ, List.set_cons_zero, List.set_cons_succ, if_true, if_false, Bool.false_eq_true, Bool.not_true, Bool.not_false, List.take_length,
      e_isi, k_isi, e_tin, k_tinP, k_tinN, e_tget, k_tget, g_star, i_zip, is_int_non, is_int_bl, is_int_int, is_int_str, is_int_tup, is_int_lst, is_int_dct, is_str_non, is_str_bl, is_str_int, is_str_str, is_str_tup, is_str_lst, is_str_dct, is_bool_non, is_bool_bl, is_bool_int, is_bool_str, is_bool_tup, is_bool_lst, is_bool_dct, is_tuple_non, is_tuple_bl, is_tuple_int, is_tuple_str, is_tuple_tup, is_tuple_lst, is_tuple_dct, is_list_non, is_list_bl, is_list_int, is_list_str, is_list_tup, is_list_lst, is_list_dct, is_dict_non, is_dict_bl, is_dict_int, is_dict_str, is_dict_tup, is_dict_lst, is_dict_dct,
      bfD, len_s, len_l, len_t, c_eq_ii, c_ne_ii, c_lt_ii, c_le_ii, c_gt_ii, c_ge_ii, c_is_non, c_isn_non, noneD, Int.cast_ofNat_Int, Int.reduceEq, Int.reduceLT, Int.reduceLE, decide_true, decide_false, kTup, kLst, pures, sizeLine_eq, Nat.reduceLeDiff, g_tupq, idx_q0, idx_q1, is_tuple_q, len_q, k_ivq, in_hand, eb_hand, ef_hand, eh_hand, int_f, int_t, mul_0, mul_1, add30, add31, add41, D4.take]
    exact ⟨_, _, rfl, D4, rfl, by simp, by simp⟩
  · obtain ⟨r5, s5, e5, d5, l5⟩ := take_ok T k (D4.pool P) (many := 4) (b := 10) (by decide) (by decide) (by decide)
    have D5 := D4.trans d5
    simp only [List.map_cons, List.map_nil, List.length_cons, List.length_nil, List.replicate, List.cons_append, List.nil_append, List.append_nil, Nat.reduceAdd, Nat.reduceSub, Nat.zero_add,
      e_var, e_con, e_bin, k_bin1, k_bin2, e_neg, k_neg, e_not, k_not, e_and, k_and, e_or, k_or, e_cmp, k_cmp1, k_cmp2, e_chain, k_ch1, k_ch2, e_ite, k_ite, e_call, k_call1, k_call2, e_blt, k_blt, e_meth, k_meth1, k_meth2, e_tup, e_lst, e_dct0, e_dcd, e_idx, k_idx1, k_idx2, e_slc, k_slc1, k_slc2, k_slc3, o_none, o_some, k_o, e_new, k_new, e_lc, k_lc, lc_g, es_nil, es_cons, k_es1, k_es2, t_nil, t_cons, k_t, i_val, i_range, i_enum, k_ent, k_enl, enumD, s_par, k_par, setAll, k_body, k_turn, k_ivl, k_ivt, k_ivs,
      g_name, g_tup, g_sub, k_sub1, gs_nil, gs_cons, k_gs, s_asg, k_asg1, k_nx, s_expr, k_expr, s_ret, k_ret, s_iff, k_if, s_for, k_for, s_aug, s_pass, ss_nil, ss_cons, k_ss, bind_ok, bind_exc, bind_stuck, go_ok, go_exc, seq_nx, seq_rt, seq_exc, turn_nx, turn_rt, turn_exc, calm_ok', end_d, end_nx, end_exc, tru_bl, give, give_b, ders, der, arrD, List.getElem?_cons_zero, List.getElem?_cons_succ, List.set_cons_zero, List.set_cons_succ, if_true, if_false, Bool.false_eq_true, Bool.not_true, Bool.not_false, List.take_length,
      e_isi, k_isi, e_tin, k_tinP, k_tinN, e_tget, k_tget, g_star, i_zip, is_int_non, is_int_bl, is_int_int, is_int_str, is_int_tup, is_int_lst, is_int_dct, is_str_non, is_str_bl, is_str_int, is_str_str, is_str_tup, is_str_lst, is_str_dct, is_bool_non, is_bool_bl, is_bool_int, is_bool_str, is_bool_tup, is_bool_lst, is_bool_dct, is_tuple_non, is_tuple_bl, is_tuple_int, is_tuple_str, is_tuple_tup, is_tuple_lst, is_tuple_dct, is_list_non, is_list_bl, is_list_int, is_list_str, is_list_tup, is_list_lst, is_list_dct, is_dict_non, is_dict_bl, is_dict_int, is_dict_str, is_dict_tup, is_dict_lst, is_dict_dct,
      bfD, len_s, len_l, len_t, c_eq_ii, c_ne_ii, c_lt_ii, c_le_ii, c_gt_ii, c_ge_ii, c_is_non, c_isn_non, noneD, Int.cast_ofNat_Int, Int.reduceEq, Int.reduceLT, Int.reduceLE, decide_true, decide_false, kTup, kLst, pures, sizeLine_eq, Nat.reduceLeDiff, g_tupq, idx_q0, idx_q1, is_tuple_q, len_q, k_ivq, in_forget, eb_forget, ef_forget, e5]
    cases decide ((r5 : Int) = 0) <;> simp only [List.map_cons, List.map_nil, List.length_cons, List.length_nil, List.replicate, List.cons_append, List.nil_append, List.append_nil, Nat.reduceAdd, Nat.reduceSub, Nat.zero_add,
      e_var, e_con, e_bin, k_bin1, k_bin2, e_neg, k_neg, e_not, k_not, e_and, k_and, e_or, k_or, e_cmp, k_cmp1, k_cmp2, e_chain, k_ch1, k_ch2, e_ite, k_ite, e_call, k_call1, k_call2, e_blt, k_blt, e_meth, k_meth1, k_meth2, e_tup, e_lst, e_dct0, e_dcd, e_idx, k_idx1, k_idx2, e_slc, k_slc1, k_slc2, k_slc3, o_none, o_some, k_o, e_new, k_new, e_lc, k_lc, lc_g, es_nil, es_cons, k_es1, k_es2, t_nil, t_cons, k_t, i_val, i_range, i_enum, k_ent, k_enl, enumD, s_par, k_par, setAll, k_body, k_turn, k_ivl, k_ivt, k_ivs,
      g_name, g_tup, g_sub, k_sub1, gs_nil, gs_cons, k_gs, s_asg, k_asg1, k_nx, s_expr, k_expr, s_ret, k_ret, s_iff, k_if, s_for, k_for, s_aug, s_pass, ss_nil, ss_cons, k_ss, bind_ok, bind_exc, bind_stuck, go_ok, go_exc, seq_nx, seq_rt, seq_exc, turn_nx, turn_rt, turn_exc, calm_ok', end_d, end_nx, end_exc, tru_bl, give, give_b, ders, der, arrD, List.getElem?_cons_zero, List.getElem?_cons_succ, List.set_cons_zero, List.set_cons_succ, if_true, if_false, Bool.false_eq_true, Bool.not_true, Bool.not_false, List.take_length,
      e_isi, k_isi, e_tin, k_tinP, k_tinN, e_tget, k_tget, g_star, i_zip, is_int_non, is_int_bl, is_int_int, is_int_str, is_int_tup, is_int_lst, is_int_dct, is_str_non, is_str_bl, is_str_int, is_str_str, is_str_tup, is_str_lst, is_str_dct, is_bool_non, is_bool_bl, is_bool_int, is_bool_str, is_bool_tup, is_bool_lst, is_bool_dct, is_tuple_non, is_tuple_bl, is_tuple_int, is_tuple_str, is_tuple_tup, is_tuple_lst, is_tuple_dct, is_list_non, is_list_bl, is_list_int, is_list_str, is_list_tup, is_list_lst, is_list_dct, is_dict_non, is_dict_bl, is_dict_int, is_dict_str, is_dict_tup, is_dict_lst, is_dict_dct,
      bfD, len_s, len_l, len_t, c_eq_ii, c_ne_ii, c_lt_ii, c_le_ii, c_gt_ii, c_ge_ii, c_is_non, c_isn_non, noneD, Int.cast_ofNat_Int, Int.reduceEq, Int.reduceLT, Int.reduceLE, decide_true, decide_false, kTup, kLst, pures, sizeLine_eq, Nat.reduceLeDiff, g_tupq, idx_q0, idx_q1, is_tuple_q, len_q, k_ivq, eh_forget, int_f, int_t, mul_0, mul_1, add30, add31, D5.take] <;> exact ⟨_, _, rfl, D5, rfl, by simp, by simp⟩
  · simp only [List.map_cons, List.map_nil, List.length_cons, List.length_nil, List.replicate, List.cons_append, List.nil_append, List.append_nil, Nat.reduceAdd, Nat.reduceSub, Nat.zero_add,
      e_var, e_con, e_bin, k_bin1, k_bin2, e_neg, k_neg, e_not, k_not, e_and, k_and, e_or, k_or, e_cmp, k_cmp1, k_cmp2, e_chain, k_ch1, k_ch2, e_ite, k_ite, e_call, k_call1, k_call2, e_blt, k_blt, e_meth, k_meth1, k_meth2, e_tup, e_lst, e_dct0, e_dcd, e_idx, k_idx1, k_idx2, e_slc, k_slc1, k_slc2, k_slc3, o_none, o_some, k_o, e_new, k_new, e_lc, k_lc, lc_g, es_nil, es_cons, k_es1, k_es2, t_nil, t_cons, k_t, i_val, i_range, i_enum, k_ent, k_enl, enumD, s_par, k_par, setAll, k_body, k_turn, k_ivl, k_ivt, k_ivs,
      g_name, g_tup, g_sub, k_sub1, gs_nil, gs_cons, k_gs, s_asg, k_asg1, k_nx, s_expr, k_expr, s_ret, k_ret, s_iff, k_if, s_for, k_for, s_aug, s_pass, ss_nil, ss_cons, k_ss, bind_ok, bind_exc, bind_stuck, go_ok, go_exc, seq_nx, seq_rt, seq_exc, turn_nx, turn_rt, turn_exc, calm_ok', end_d, end_nx, end_exc, tru_bl, give, give_b, ders, der, arrD, List.getElem?_cons_zero, List.getElem?_cons_succ, List.set_cons_zero, List.set_cons_succ, if_true, if_false, Bool.false_eq_true, Bool.not_true, Bool.not_false, List.take_length,
      e_isi, k_isi, e_tin, k_tinP, k_tinN, e_tget, k_tget, g_star, i_zip, is_int_non, is_int_bl, is_int_int, is_int_str, is_int_tup, is_int_lst, is_int_dct, is_str_non, is_str_bl, is_str_int, is_str_str, is_str_tup, is_str_lst, is_str_dct, is_bool_non, is_bool_bl, is_bool_int, is_bool_str, is_bool_tup, is_bool_lst, is_bool_dct, is_tuple_non, is_tuple_bl, is_tuple_int, is_tuple_str, is_tuple_tup, is_tuple_lst, is_tuple_dct, is_list_non, is_list_bl, is_list_int, is_list_str, is_list_tup, is_list_lst, is_list_dct, is_dict_non, is_dict_bl, is_dict_int, is_dict_str, is_dict_tup, is_dict_lst, is_dict_dct,
      bfD, len_s, len_l, len_t, c_eq_ii, c_ne_ii, c_lt_ii, c_le_ii, c_gt_ii, c_ge_ii, c_is_non, c_isn_non, noneD, Int.cast_ofNat_Int, Int.reduceEq, Int.reduceLT, Int.reduceLE, decide_true, decide_false, kTup, kLst, pures, sizeLine_eq, Nat.reduceLeDiff, g_tupq, idx_q0, idx_q1, is_tuple_q, len_q, k_ivq, in_go, eb_go, ef_go, eh_go, int_f, int_t, mul_0, mul_1, add30, add31, add41, D4.take]
    exact ⟨_, _, rfl, D4, rfl, by simp, by simp⟩
end
end TW
namespace TW
open PySem PySem.Spec PyProof.Rows L2
def OkDeed (d : D) : Prop := ∀ zs, d = .tup zs → dep d ≤ 64
theorem deps_of {xs : List D} {m : Nat} (h : ∀ x ∈ xs, dep x ≤ m) : deps xs ≤ m := by
  induction xs with
  | nil => simp [deps]
  | cons x xs ih =>
    have := ih fun y hy => h y (List.mem_cons_of_mem _ hy)
    have := h x (by simp)
    simp only [deps]; omega
theorem of_deps {xs : List D} {m : Nat} (h : deps xs ≤ m) : ∀ x ∈ xs, dep x ≤ m := by
  induction xs with
  | nil => intro x hx; cases hx
  | cons y xs ih =>
    simp only [deps] at h
    intro x hx
    rcases List.mem_cons.mp hx with rfl | q
    · omega
    · exact ih (by omega) x q
theorem ok_tup {xs : List D} (h : ∀ x ∈ xs, dep x ≤ 63) : OkDeed (.tup xs) := fun _ _ => by
  have := deps_of h
  simp only [dep]; omega
theorem cut_mem {xs : List D} {lo hi : Option Int} {x : D} (h : x ∈ cutD xs lo hi) : x ∈ xs := List.mem_of_mem_drop (List.mem_of_mem_take h)
theorem cutT_len (xs : List D) (lo hi : Option Int) : (cutD xs lo hi).length ≤ xs.length := by
  unfold cutD
  rw [List.length_take, List.length_drop]
  omega
theorem ix_l {xs : List D} {r : Nat} (h : (r : Int) < xs.length) : ∃ y, idxD (.lst xs) (.int r) = some y ∧ y ∈ xs := by
  have h' : r < xs.length := by omega
  exact ⟨xs[r], atI_nat (List.getElem?_eq_getElem h'), List.getElem_mem h'⟩
theorem sl_t (xs : List D) (lo hi : Option Int) : slcD (.tup xs) lo hi = some (.tup (cutD xs lo hi)) := id rfl
theorem lst_t (xs : List D) : lstD [.tup xs] = some (.lst xs) := id rfl
theorem tup_l (xs : List D) : tupD [.lst xs] = some (.tup xs) := id rfl
theorem add_l (a b : List D) (h : a.length + b.length ≤ 16777216) : binD .Add (.lst a) (.lst b) = some (.lst (a ++ b)) := by
  simp only [binD, sizeLine_eq, h, if_true]
section
variable {t : Tbl} (T : Sub TC t) (L : Sub TL05 t) (k : Nat) {st : Sto}
include T L
theorem odd_new {n : Nat} (P : PoolAt n st) (xs : List D) (h0 : deps xs = 0) (h6 : xs.length ≤ 6) : ∃ (y : D) (st' : Sto), Fn t (k + 2) 32 [.ref n, .d (.tup xs)] st = .ok (.d y) st' ∧ Drawn n st st' ∧ OkDeed y := by
  rw [fn_at L rfl]
  obtain ⟨r, s1, e1, d1, l1⟩ := take_ok T k P (many := 17) (b := 10) (by decide) (by decide) (by decide)
  have hx : ∀ x ∈ xs, dep x ≤ 0 := of_deps (by omega)
  obtain ⟨q, f1, o1⟩ : ∃ q, binD .Add (.tup xs) (.tup [.int 1]) = some (.tup q) ∧ OkDeed (.tup q) := ⟨_, add_t _ _ (by simp; omega), ok_tup fun x hm => by
    rcases List.mem_append.mp hm with z | z
    · have := hx x z; omega
    · rw [List.mem_singleton.mp z]; simp [dep]⟩
  obtain ⟨c, f2, o2⟩ : ∃ q, slcD (.tup xs) none (some 1) = some (.tup q) ∧ OkDeed (.tup q) := ⟨_, sl_t _ _ _, ok_tup fun x hm => by have := hx x (cut_mem hm); omega⟩
  have o3 : OkDeed (.tup [.tup xs]) := ok_tup fun x hm => by
    rw [List.mem_singleton.mp hm]
    simp only [dep, h0]; omega
  simp only [runF, startE, I32, List.map_cons, List.map_nil, List.length_cons, List.length_nil, List.replicate, List.cons_append, List.nil_append, List.append_nil, Nat.reduceAdd, Nat.reduceSub, Nat.zero_add,
      e_var, e_con, e_bin, k_bin1, k_bin2, e_neg, k_neg, e_not, k_not, e_and, k_and, e_or, k_or, e_cmp, k_cmp1, k_cmp2, e_chain, k_ch1, k_ch2, e_ite, k_ite, e_call, k_call1, k_call2, e_blt, k_blt, e_meth, k_meth1, k_meth2, e_tup, e_lst, e_dct0, e_dcd, e_idx, k_idx1, k_idx2, e_slc, k_slc1, k_slc2, k_slc3, o_none, o_some, k_o, e_new, k_new, e_lc, k_lc, lc_g, es_nil, es_cons, k_es1, k_es2, t_nil, t_cons, k_t, i_val, i_range, i_enum, k_ent, k_enl, enumD, s_par, k_par, setAll, k_body, k_turn, k_ivl, k_ivt, k_ivs,
      g_name, g_tup, g_sub, k_sub1, gs_nil, gs_cons, k_gs, s_asg, k_asg1, k_nx, s_expr, k_expr, s_ret, k_ret, s_iff, k_if, s_for, k_for, s_aug, s_pass, ss_nil, ss_cons, k_ss, bind_ok, bind_exc, bind_stuck, go_ok, go_exc, seq_nx, seq_rt, seq_exc, turn_nx, turn_rt, turn_exc, calm_ok', end_d, end_nx, end_exc, tru_bl, give, give_b, ders, der, arrD, List.getElem?_cons_zero, List.getElem?_cons_succ, List.set_cons_zero, List.set_cons_succ, if_true, if_false, Bool.false_eq_true, Bool.not_true, Bool.not_false, List.take_length,
      e_isi, k_isi, e_tin, k_tinP, k_tinN, e_tget, k_tget, g_star, i_zip, is_int_non, is_int_bl, is_int_int, is_int_str, is_int_tup, is_int_lst, is_int_dct, is_str_non, is_str_bl, is_str_int, is_str_str, is_str_tup, is_str_lst, is_str_dct, is_bool_non, is_bool_bl, is_bool_int, is_bool_str, is_bool_tup, is_bool_lst, is_bool_dct, is_tuple_non, is_tuple_bl, is_tuple_int, is_tuple_str, is_tuple_tup, is_tuple_lst, is_tuple_dct, is_list_non, is_list_bl, is_list_int, is_list_str, is_list_tup, is_list_lst, is_list_dct, is_dict_non, is_dict_bl, is_dict_int, is_dict_str, is_dict_tup, is_dict_lst, is_dict_dct,
      bfD, len_s, len_l, len_t, c_eq_ii, c_ne_ii, c_lt_ii, c_le_ii, c_gt_ii, c_ge_ii, c_is_non, c_isn_non, noneD, Int.cast_ofNat_Int, Int.reduceEq, Int.reduceLT, Int.reduceLE, decide_true, decide_false, kTup, kLst, pures, sizeLine_eq, Nat.reduceLeDiff, g_tupq, idx_q0, idx_q1, is_tuple_q, len_q, k_ivq, lst_t, f2, f1]
  rw [add_l _ _ (by simp)]
  generalize hz : (_ ++ _ : List D) = zs
  have hl : (r : Int) < zs.length := by rw [← hz]; exact l1
  have ho : ∀ y ∈ zs, OkDeed y := by
    rw [← hz]
    intro y hy
    simp only [List.cons_append, List.nil_append, List.mem_cons, List.not_mem_nil, or_false] at hy
    rcases hy with rfl | rfl | rfl | rfl | rfl | rfl | rfl | rfl | rfl | rfl | rfl | rfl | rfl | rfl | rfl | rfl | rfl
    all_goals first | exact o1 | exact o2 | exact o3 | (intro _ h; cases h; done) | (intro _ _; decide)
  obtain ⟨y, hy, hm⟩ := ix_l hl
  simp only [List.map_cons, List.map_nil, List.length_cons, List.length_nil, List.replicate, List.cons_append, List.nil_append, List.append_nil, Nat.reduceAdd, Nat.reduceSub, Nat.zero_add,
      e_var, e_con, e_bin, k_bin1, k_bin2, e_neg, k_neg, e_not, k_not, e_and, k_and, e_or, k_or, e_cmp, k_cmp1, k_cmp2, e_chain, k_ch1, k_ch2, e_ite, k_ite, e_call, k_call1, k_call2, e_blt, k_blt, e_meth, k_meth1, k_meth2, e_tup, e_lst, e_dct0, e_dcd, e_idx, k_idx1, k_idx2, e_slc, k_slc1, k_slc2, k_slc3, o_none, o_some, k_o, e_new, k_new, e_lc, k_lc, lc_g, es_nil, es_cons, k_es1, k_es2, t_nil, t_cons, k_t, i_val, i_range, i_enum, k_ent, k_enl, enumD, s_par, k_par, setAll, k_body, k_turn, k_ivl, k_ivt, k_ivs,
      g_name, g_tup, g_sub, k_sub1, gs_nil, gs_cons, k_gs, s_asg, k_asg1, k_nx, s_expr, k_expr, s_ret, k_ret, s_iff, k_if, s_for, k_for, s_aug, s_pass, ss_nil, ss_cons, k_ss, bind_ok, bind_exc, bind_stuck, go_ok, go_exc, seq_nx, seq_rt, seq_exc, turn_nx, turn_rt, turn_exc, calm_ok', end_d, end_nx, end_exc, tru_bl, give, give_b, ders, der, arrD, List.getElem?_cons_zero, List.getElem?_cons_succ, List.set_cons_zero, List.set_cons_succ, if_true, if_false, Bool.false_eq_true, Bool.not_true, Bool.not_false, List.take_length,
      e_isi, k_isi, e_tin, k_tinP, k_tinN, e_tget, k_tget, g_star, i_zip, is_int_non, is_int_bl, is_int_int, is_int_str, is_int_tup, is_int_lst, is_int_dct, is_str_non, is_str_bl, is_str_int, is_str_str, is_str_tup, is_str_lst, is_str_dct, is_bool_non, is_bool_bl, is_bool_int, is_bool_str, is_bool_tup, is_bool_lst, is_bool_dct, is_tuple_non, is_tuple_bl, is_tuple_int, is_tuple_str, is_tuple_tup, is_tuple_lst, is_tuple_dct, is_list_non, is_list_bl, is_list_int, is_list_str, is_list_tup, is_list_lst, is_list_dct, is_dict_non, is_dict_bl, is_dict_int, is_dict_str, is_dict_tup, is_dict_lst, is_dict_dct,
      bfD, len_s, len_l, len_t, c_eq_ii, c_ne_ii, c_lt_ii, c_le_ii, c_gt_ii, c_ge_ii, c_is_non, c_isn_non, noneD, Int.cast_ofNat_Int, Int.reduceEq, Int.reduceLT, Int.reduceLE, decide_true, decide_false, kTup, kLst, pures, sizeLine_eq, Nat.reduceLeDiff, g_tupq, idx_q0, idx_q1, is_tuple_q, len_q, k_ivq, e1, hy, d1.take]
  exact ⟨y, s1, rfl, d1, ho y hm⟩
end
end TW
namespace TW
open PySem PySem.Spec PyProof.Rows L2
def Deed1 (d : D) : Prop := ∃ xs, d = .tup xs ∧ deps xs = 0 ∧ xs.length ≤ 6
theorem Deed1.ok {d : D} (h : Deed1 d) : OkDeed d := by
  obtain ⟨xs, rfl, h0, _⟩ := h
  intro _ _
  simp only [dep]; omega
theorem shal_of {ds : List D} (h : ∀ d ∈ ds, OkDeed d) : Shal (.tup ds) := by
  intro _ q d hd xs e
  cases q
  exact h d hd xs e
theorem ix_b (r : Nat) (v : Nat) (hv : (v : Int) < 11) (h : (r : Int) < 8) : ∃ j m : Nat, idxD (.lst [.int 0, .int 0, .int 0, .int 0, .int 0, .int 0, .int 1, .int 2]) (.int r) = some (.int j) ∧ idxD (.lst [.int v, .int 60, .int 61]) (.int j) = some (.int m) ∧ m ≤ 61 := by
  have h' : r < 8 := by omega
  match r, h' with
  | 0, _ => exact ⟨0, v, rfl, rfl, by omega⟩
  | 1, _ => exact ⟨0, v, rfl, rfl, by omega⟩
  | 2, _ => exact ⟨0, v, rfl, rfl, by omega⟩
  | 3, _ => exact ⟨0, v, rfl, rfl, by omega⟩
  | 4, _ => exact ⟨0, v, rfl, rfl, by omega⟩
  | 5, _ => exact ⟨0, v, rfl, rfl, by omega⟩
  | 6, _ => exact ⟨1, 60, rfl, rfl, by omega⟩
  | 7, _ => exact ⟨2, 61, rfl, rfl, by omega⟩
theorem mul_n (x : D) (m : Nat) (h : m ≤ 100) : ∃ zs, binD .Mult (.tup [x]) (.int m) = some (.tup zs) ∧ ∀ z ∈ zs, z = x := by
  refine ⟨(List.replicate m [x]).flatten, ?_, ?_⟩
  · simp only [binD]
    rw [if_pos ⟨by omega, by omega, by simp⟩, Int.toNat_natCast]
  · intro z hz
    obtain ⟨l, h1, h2⟩ := List.mem_flatten.mp hz
    rw [(List.mem_replicate.mp h1).2] at h2
    exact List.mem_singleton.mp h2
/-- two tuples of deeds one behind the other -/
theorem add_ok {a b : List D} (ha : ∀ d ∈ a, OkDeed d) (hb : ∀ d ∈ b, OkDeed d) (la : a.length ≤ 1000) (lb : b.length ≤ 1000) : ∃ c, binD .Add (.tup a) (.tup b) = some (.tup c) ∧ (∀ d ∈ c, OkDeed d) ∧ c.length = a.length + b.length :=
  ⟨a ++ b, add_t _ _ (by omega), fun d hd => (List.mem_append.mp hd).elim (ha d) (hb d), List.length_append⟩
theorem one_ok {d : D} (h : OkDeed d) : ∀ x ∈ [d], OkDeed x := fun x hx => by rw [List.mem_singleton.mp hx]; exact h
section
variable {t : Tbl} (T : Sub TC t) (L : Sub TL05 t) (k : Nat) {st : Sto}
include T L
theorem books_new {n : Nat} (P : PoolAt n st) : ∃ (Ms : List D) (st' : Sto), Fn t (k + 3) 33 [.ref n] st = .ok (.d (.lst Ms)) st' ∧ Drawn n st st' ∧ (∀ M ∈ Ms, Shal M) ∧ Ms.length = 11 := by
  rw [fn_at L rfl]
  obtain ⟨r1, s1, e1, d1, l1⟩ := take_ok T (k + 1) P (many := 11) (b := 10) (by decide) (by decide) (by decide)
  obtain ⟨r2, s2, e2, d2, l2⟩ := take_ok T (k + 1) (d1.pool P) (many := 8) (b := 10) (by decide) (by decide) (by decide)
  have D2 := d1.trans d2
  obtain ⟨j, m, f1, f2, hm⟩ := ix_b r2 r1 l1 l2
  obtain ⟨ds, s3, e3, ⟨D3, hd⟩, l3⟩ := lc_invN (F := Fn t (k + 2)) (i := 3) (el := I33e1) (en := [some (.ref n), some (.d (.int m)), none, none, none, none, none]) (I := fun acc st' => Drawn n st st' ∧ ∀ d ∈ acc, Deed1 d) ((List.range m).map fun (i : Nat) => D.int i) [] s2 ⟨D2, fun _ h => nomatch h⟩ (by
    rintro x hx acc s ⟨d, h⟩
    obtain ⟨zs, s', e', d', h0, _, h6⟩ := deed_new T L k (d.pool P)
    refine ⟨.tup zs, s', by simp only [I33e1, List.map_cons, List.map_nil, List.length_cons, List.length_nil, List.replicate, List.cons_append, List.nil_append, List.append_nil, Nat.reduceAdd, Nat.reduceSub, Nat.zero_add,
      e_var, e_con, e_bin, k_bin1, k_bin2, e_neg, k_neg, e_not, k_not, e_and, k_and, e_or, k_or, e_cmp, k_cmp1, k_cmp2, e_chain, k_ch1, k_ch2, e_ite, k_ite, e_call, k_call1, k_call2, e_blt, k_blt, e_meth, k_meth1, k_meth2, e_tup, e_lst, e_dct0, e_dcd, e_idx, k_idx1, k_idx2, e_slc, k_slc1, k_slc2, k_slc3, o_none, o_some, k_o, e_new, k_new, e_lc, k_lc, lc_g, es_nil, es_cons, k_es1, k_es2, t_nil, t_cons, k_t, i_val, i_range, i_enum, k_ent, k_enl, enumD, s_par, k_par, setAll, k_body, k_turn, k_ivl, k_ivt, k_ivs,
      g_name, g_tup, g_sub, k_sub1, gs_nil, gs_cons, k_gs, s_asg, k_asg1, k_nx, s_expr, k_expr, s_ret, k_ret, s_iff, k_if, s_for, k_for, s_aug, s_pass, ss_nil, ss_cons, k_ss, bind_ok, bind_exc, bind_stuck, go_ok, go_exc, seq_nx, seq_rt, seq_exc, turn_nx, turn_rt, turn_exc, calm_ok', end_d, end_nx, end_exc, tru_bl, give, give_b, ders, der, arrD, List.getElem?_cons_zero, List.getElem?_cons_succ, List.set_cons_zero, List.set_cons_succ, if_true, if_false, Bool.false_eq_true, Bool.not_true, Bool.not_false, List.take_length,
      e_isi, k_isi, e_tin, k_tinP, k_tinN, e_tget, k_tget, g_star, i_zip, is_int_non, is_int_bl, is_int_int, is_int_str, is_int_tup, is_int_lst, is_int_dct, is_str_non, is_str_bl, is_str_int, is_str_str, is_str_tup, is_str_lst, is_str_dct, is_bool_non, is_bool_bl, is_bool_int, is_bool_str, is_bool_tup, is_bool_lst, is_bool_dct, is_tuple_non, is_tuple_bl, is_tuple_int, is_tuple_str, is_tuple_tup, is_tuple_lst, is_tuple_dct, is_list_non, is_list_bl, is_list_int, is_list_str, is_list_tup, is_list_lst, is_list_dct, is_dict_non, is_dict_bl, is_dict_int, is_dict_str, is_dict_tup, is_dict_lst, is_dict_dct,
      bfD, len_s, len_l, len_t, c_eq_ii, c_ne_ii, c_lt_ii, c_le_ii, c_gt_ii, c_ge_ii, c_is_non, c_isn_non, noneD, Int.cast_ofNat_Int, Int.reduceEq, Int.reduceLT, Int.reduceLE, decide_true, decide_false, kTup, kLst, pures, sizeLine_eq, Nat.reduceLeDiff, g_tupq, idx_q0, idx_q1, is_tuple_q, len_q, k_ivq, e'], d.trans d', fun y hy => ?_⟩
    rcases List.mem_append.mp hy with q | q
    · exact h y q
    · rw [List.mem_singleton.mp q]; exact ⟨zs, rfl, h0, h6⟩)
  have l3 : ds.length ≤ 61 := by simp at l3; omega
  have hO : ∀ d ∈ ds, OkDeed d := fun d h => (hd d h).ok
  obtain ⟨at_, s4, e4, d4, l4⟩ := take_ok T (k + 1) (D3.pool P) (many := (ds.length : Int) + 1) (b := 10) (by omega) (by omega) (by decide)
  have D4 := D3.trans d4
  obtain ⟨zs, s5, e5, d5, h0, _, h6⟩ := deed_new T L k (D4.pool P)
  have D5 := D4.trans d5
  have oz : OkDeed (.tup zs) := Deed1.ok ⟨zs, rfl, h0, h6⟩
  obtain ⟨y1, s6, e6, d6, o6⟩ := odd_new T L k (D5.pool P) zs h0 h6
  have D6 := D5.trans d6
  obtain ⟨y2, s7, e7, d7, o7⟩ := odd_new T L k (D6.pool P) zs h0 h6
  have D7 := D6.trans d7
  obtain ⟨A, hA, oA, lA⟩ : ∃ q, slcD (.tup ds) none (some at_) = some (.tup q) ∧ (∀ d ∈ q, OkDeed d) ∧ q.length ≤ 61 := ⟨_, sl_t _ _ _, fun d h => hO d (cut_mem h), Nat.le_trans (cutT_len _ _ _) l3⟩
  obtain ⟨B, hB, oB, lB⟩ : ∃ q, slcD (.tup ds) (some at_) none = some (.tup q) ∧ (∀ d ∈ q, OkDeed d) ∧ q.length ≤ 61 := ⟨_, sl_t _ _ _, fun d h => hO d (cut_mem h), Nat.le_trans (cutT_len _ _ _) l3⟩
  obtain ⟨C, hC, oC, lC⟩ : ∃ q, slcD (.tup ds) (some (at_ + 1)) none = some (.tup q) ∧ (∀ d ∈ q, OkDeed d) ∧ q.length ≤ 61 := ⟨_, sl_t _ _ _, fun d h => hO d (cut_mem h), Nat.le_trans (cutT_len _ _ _) l3⟩
  obtain ⟨A1, a1, p1, q1⟩ := add_ok oA (one_ok o6) (by omega) (by simp)
  obtain ⟨A2, a2, p2, q2⟩ := add_ok p1 oB (by simp at q1; omega) (by omega)
  obtain ⟨A3, a3, p3, q3⟩ := add_ok oA (one_ok oz) (by omega) (by simp)
  obtain ⟨A4, a4, p4, q4⟩ := add_ok p3 oB (by simp at q3; omega) (by omega)
  obtain ⟨A5, a5, p5, q5⟩ := add_ok oA (one_ok o7) (by omega) (by simp)
  obtain ⟨A6, a6, p6, q6⟩ := add_ok p5 oC (by simp at q5; omega) (by omega)
  obtain ⟨A7, a7, p7, q7⟩ := add_ok oA oC (by omega) (by omega)
  obtain ⟨A8, a8, p8, q8⟩ := add_ok hO hO (by omega) (by omega)
  obtain ⟨M1, m1, u1⟩ := mul_n (.tup zs) 60 (by decide)
  obtain ⟨M2, m2, u2⟩ := mul_n (.tup zs) 61 (by decide)
  have m1 : binD .Mult (.tup [.tup zs]) (.int 60) = some (.tup M1) := m1
  have m2 : binD .Mult (.tup [.tup zs]) (.int 61) = some (.tup M2) := m2
  have hz : ((List.range m).map fun (i : Nat) => D.int i).length ≤ 16777216 := by simp; omega
  have hk := kirN m s2 (by omega)
  have w1 : Shal (.tup [.tup ds]) := shal_of (one_ok fun _ _ => by
    have : deps ds ≤ 1 := deps_of fun d h => by obtain ⟨xs, rfl, g0, _⟩ := hd d h; simp only [dep]; omega
    simp only [dep]; omega)
  have w2 : Shal (.tup zs) := shal_of fun d h _ _ => by have := of_deps (m := 0) (by omega) d h; omega
  have w3 : Shal (.tup M1) := shal_of fun d h => by rw [u1 d h]; exact oz
  have w4 : Shal (.tup M2) := shal_of fun d h => by rw [u2 d h]; exact oz
  refine ⟨[.tup ds, .tup A2, .tup A4, .tup A6, .tup A7, .lst ds, .tup [.tup ds], .tup A8, .tup zs, .tup M1, .tup M2], s7, ?_, D7, ?_, rfl⟩
  · simp only [runF, startE, I33, List.map_cons, List.map_nil, List.length_cons, List.length_nil, List.replicate, List.cons_append, List.nil_append, List.append_nil, Nat.reduceAdd, Nat.reduceSub, Nat.zero_add,
      e_var, e_con, e_bin, k_bin1, k_bin2, e_neg, k_neg, e_not, k_not, e_and, k_and, e_or, k_or, e_cmp, k_cmp1, k_cmp2, e_chain, k_ch1, k_ch2, e_ite, k_ite, e_call, k_call1, k_call2, e_blt, k_blt, e_meth, k_meth1, k_meth2, e_tup, e_lst, e_dct0, e_dcd, e_idx, k_idx1, k_idx2, e_slc, k_slc1, k_slc2, k_slc3, o_none, o_some, k_o, e_new, k_new, e_lc, k_lc, lc_g, es_nil, es_cons, k_es1, k_es2, t_nil, t_cons, k_t, i_val, i_range, i_enum, k_ent, k_enl, enumD, s_par, k_par, setAll, k_body, k_turn, k_ivl, k_ivt, k_ivs,
      g_name, g_tup, g_sub, k_sub1, gs_nil, gs_cons, k_gs, s_asg, k_asg1, k_nx, s_expr, k_expr, s_ret, k_ret, s_iff, k_if, s_for, k_for, s_aug, s_pass, ss_nil, ss_cons, k_ss, bind_ok, bind_exc, bind_stuck, go_ok, go_exc, seq_nx, seq_rt, seq_exc, turn_nx, turn_rt, turn_exc, calm_ok', end_d, end_nx, end_exc, tru_bl, give, give_b, ders, der, arrD, List.getElem?_cons_zero, List.getElem?_cons_succ, List.set_cons_zero, List.set_cons_succ, if_true, if_false, Bool.false_eq_true, Bool.not_true, Bool.not_false, List.take_length,
      e_isi, k_isi, e_tin, k_tinP, k_tinN, e_tget, k_tget, g_star, i_zip, is_int_non, is_int_bl, is_int_int, is_int_str, is_int_tup, is_int_lst, is_int_dct, is_str_non, is_str_bl, is_str_int, is_str_str, is_str_tup, is_str_lst, is_str_dct, is_bool_non, is_bool_bl, is_bool_int, is_bool_str, is_bool_tup, is_bool_lst, is_bool_dct, is_tuple_non, is_tuple_bl, is_tuple_int, is_tuple_str, is_tuple_tup, is_tuple_lst, is_tuple_dct, is_list_non, is_list_bl, is_list_int, is_list_str, is_list_tup, is_list_lst, is_list_dct, is_dict_non, is_dict_bl, is_dict_int, is_dict_str, is_dict_tup, is_dict_lst, is_dict_dct,
      bfD, len_s, len_l, len_t, c_eq_ii, c_ne_ii, c_lt_ii, c_le_ii, c_gt_ii, c_ge_ii, c_is_non, c_isn_non, noneD, Int.cast_ofNat_Int, Int.reduceEq, Int.reduceLT, Int.reduceLE, decide_true, decide_false, kTup, kLst, pures, sizeLine_eq, Nat.reduceLeDiff, g_tupq, idx_q0, idx_q1, is_tuple_q, len_q, k_ivq, e1, e2, f1, f2, hk, hz, wipeE, e3, tup_l, add_i, e4, e5, e6, e7, hA, hB, hC, a1, a2, a3, a4, a5, a6, a7, a8, m1, m2, lst_t]
    rw [add_l _ _ (by simp)]
    simp only [List.map_cons, List.map_nil, List.length_cons, List.length_nil, List.replicate, List.cons_append, List.nil_append, List.append_nil, Nat.reduceAdd, Nat.reduceSub, Nat.zero_add,
      e_var, e_con, e_bin, k_bin1, k_bin2, e_neg, k_neg, e_not, k_not, e_and, k_and, e_or, k_or, e_cmp, k_cmp1, k_cmp2, e_chain, k_ch1, k_ch2, e_ite, k_ite, e_call, k_call1, k_call2, e_blt, k_blt, e_meth, k_meth1, k_meth2, e_tup, e_lst, e_dct0, e_dcd, e_idx, k_idx1, k_idx2, e_slc, k_slc1, k_slc2, k_slc3, o_none, o_some, k_o, e_new, k_new, e_lc, k_lc, lc_g, es_nil, es_cons, k_es1, k_es2, t_nil, t_cons, k_t, i_val, i_range, i_enum, k_ent, k_enl, enumD, s_par, k_par, setAll, k_body, k_turn, k_ivl, k_ivt, k_ivs,
      g_name, g_tup, g_sub, k_sub1, gs_nil, gs_cons, k_gs, s_asg, k_asg1, k_nx, s_expr, k_expr, s_ret, k_ret, s_iff, k_if, s_for, k_for, s_aug, s_pass, ss_nil, ss_cons, k_ss, bind_ok, bind_exc, bind_stuck, go_ok, go_exc, seq_nx, seq_rt, seq_exc, turn_nx, turn_rt, turn_exc, calm_ok', end_d, end_nx, end_exc, tru_bl, give, give_b, ders, der, arrD, List.getElem?_cons_zero, List.getElem?_cons_succ, List.set_cons_zero, List.set_cons_succ, if_true, if_false, Bool.false_eq_true, Bool.not_true, Bool.not_false, List.take_length,
      e_isi, k_isi, e_tin, k_tinP, k_tinN, e_tget, k_tget, g_star, i_zip, is_int_non, is_int_bl, is_int_int, is_int_str, is_int_tup, is_int_lst, is_int_dct, is_str_non, is_str_bl, is_str_int, is_str_str, is_str_tup, is_str_lst, is_str_dct, is_bool_non, is_bool_bl, is_bool_int, is_bool_str, is_bool_tup, is_bool_lst, is_bool_dct, is_tuple_non, is_tuple_bl, is_tuple_int, is_tuple_str, is_tuple_tup, is_tuple_lst, is_tuple_dct, is_list_non, is_list_bl, is_list_int, is_list_str, is_list_tup, is_list_lst, is_list_dct, is_dict_non, is_dict_bl, is_dict_int, is_dict_str, is_dict_tup, is_dict_lst, is_dict_dct,
      bfD, len_s, len_l, len_t, c_eq_ii, c_ne_ii, c_lt_ii, c_le_ii, c_gt_ii, c_ge_ii, c_is_non, c_isn_non, noneD, Int.cast_ofNat_Int, Int.reduceEq, Int.reduceLT, Int.reduceLE, decide_true, decide_false, kTup, kLst, pures, sizeLine_eq, Nat.reduceLeDiff, g_tupq, idx_q0, idx_q1, is_tuple_q, len_q, k_ivq, a8, m1, m2]
    rw [add_l _ _ (by simp)]
    simp only [List.map_cons, List.map_nil, List.length_cons, List.length_nil, List.replicate, List.cons_append, List.nil_append, List.append_nil, Nat.reduceAdd, Nat.reduceSub, Nat.zero_add,
      e_var, e_con, e_bin, k_bin1, k_bin2, e_neg, k_neg, e_not, k_not, e_and, k_and, e_or, k_or, e_cmp, k_cmp1, k_cmp2, e_chain, k_ch1, k_ch2, e_ite, k_ite, e_call, k_call1, k_call2, e_blt, k_blt, e_meth, k_meth1, k_meth2, e_tup, e_lst, e_dct0, e_dcd, e_idx, k_idx1, k_idx2, e_slc, k_slc1, k_slc2, k_slc3, o_none, o_some, k_o, e_new, k_new, e_lc, k_lc, lc_g, es_nil, es_cons, k_es1, k_es2, t_nil, t_cons, k_t, i_val, i_range, i_enum, k_ent, k_enl, enumD, s_par, k_par, setAll, k_body, k_turn, k_ivl, k_ivt, k_ivs,
      g_name, g_tup, g_sub, k_sub1, gs_nil, gs_cons, k_gs, s_asg, k_asg1, k_nx, s_expr, k_expr, s_ret, k_ret, s_iff, k_if, s_for, k_for, s_aug, s_pass, ss_nil, ss_cons, k_ss, bind_ok, bind_exc, bind_stuck, go_ok, go_exc, seq_nx, seq_rt, seq_exc, turn_nx, turn_rt, turn_exc, calm_ok', end_d, end_nx, end_exc, tru_bl, give, give_b, ders, der, arrD, List.getElem?_cons_zero, List.getElem?_cons_succ, List.set_cons_zero, List.set_cons_succ, if_true, if_false, Bool.false_eq_true, Bool.not_true, Bool.not_false, List.take_length,
      e_isi, k_isi, e_tin, k_tinP, k_tinN, e_tget, k_tget, g_star, i_zip, is_int_non, is_int_bl, is_int_int, is_int_str, is_int_tup, is_int_lst, is_int_dct, is_str_non, is_str_bl, is_str_int, is_str_str, is_str_tup, is_str_lst, is_str_dct, is_bool_non, is_bool_bl, is_bool_int, is_bool_str, is_bool_tup, is_bool_lst, is_bool_dct, is_tuple_non, is_tuple_bl, is_tuple_int, is_tuple_str, is_tuple_tup, is_tuple_lst, is_tuple_dct, is_list_non, is_list_bl, is_list_int, is_list_str, is_list_tup, is_list_lst, is_list_dct, is_dict_non, is_dict_bl, is_dict_int, is_dict_str, is_dict_tup, is_dict_lst, is_dict_dct,
      bfD, len_s, len_l, len_t, c_eq_ii, c_ne_ii, c_lt_ii, c_le_ii, c_gt_ii, c_ge_ii, c_is_non, c_isn_non, noneD, Int.cast_ofNat_Int, Int.reduceEq, Int.reduceLT, Int.reduceLE, decide_true, decide_false, kTup, kLst, pures, sizeLine_eq, Nat.reduceLeDiff, g_tupq, idx_q0, idx_q1, is_tuple_q, len_q, k_ivq, D7.take]
  · intro M hM
    simp only [List.mem_cons, List.not_mem_nil, or_false] at hM
    rcases hM with rfl | rfl | rfl | rfl | rfl | rfl | rfl | rfl | rfl | rfl | rfl
    · exact shal_of hO
    · exact shal_of p2
    · exact shal_of p4
    · exact shal_of p6
    · exact shal_of p7
    · intro _ h; cases h
    · exact w1
    · exact shal_of p8
    · exact w2
    · exact w3
    · exact w4
theorem all_right {F : Fs} {el : E} {i : Nat} {en : En} (Ms : List D) (h : ∀ M ∈ Ms, evE F el (en.set i (some (.d M))) st = .ok (.d (.bl true)) st) :
    lcLoop [] (lcG F (.name i)) (evT F .nil) (evE F el) en Ms [] st = .ok (.d (.lst (Ms.map fun _ => .bl true))) st := by
  rw [lc_name (f := fun _ => .bl true) (pin_nil st) Ms [] h, List.nil_append]
theorem all_tt (Ms : List D) : allD [.lst (Ms.map fun _ => .bl true)] = some (.bl true) := by
  rw [all_map (fun _ => true)]; simp
omit T L in
theorem min_n (m : Nat) : ∃ q : Nat, minD [.int m, .int 6] = some (.int q) ∧ q ≤ 6 := by
  by_cases h : (6 : Int) < m
  · exact ⟨6, by simp only [minD, if_pos h]; rfl, by omega⟩
  · exact ⟨m, by simp only [minD, if_neg h], by omega⟩
omit T L in
theorem max_n (q : Nat) (h : q ≤ 6) : ∃ r : Nat, maxD [.int 2, .int q] = some (.int r) ∧ r ≤ 6 := by
  by_cases h : (q : Int) > 2
  · exact ⟨q, by simp only [maxD, if_pos h], by omega⟩
  · exact ⟨2, by simp only [maxD, if_neg h]; rfl, by omega⟩
/-- the law -/
theorem law05 (ns : List Int) : Fn t (k + 6) 35 [.d (.lst (ns.map D.int))] [] = .ok (.d (.bl true)) [] := by
  rw [fn_at L rfl]
  have og : Deed1 (.tup [.str ⟨#[103, 111]⟩, .str ⟨#[97, 110, 110]⟩]) := ⟨_, rfl, by decide, by decide⟩
  obtain ⟨M1, m1, u1⟩ := mul_n (.tup [.str ⟨#[103, 111]⟩, .str ⟨#[97, 110, 110]⟩]) 60 (by decide)
  obtain ⟨M2, m2, u2⟩ := mul_n (.tup [.str ⟨#[103, 111]⟩, .str ⟨#[97, 110, 110]⟩]) 61 (by decide)
  have m1 : binD .Mult (.tup [.tup [.str ⟨#[103, 111]⟩, .str ⟨#[97, 110, 110]⟩]]) (.int 60) = some (.tup M1) := m1
  have m2 : binD .Mult (.tup [.tup [.str ⟨#[103, 111]⟩, .str ⟨#[97, 110, 110]⟩]]) (.int 61) = some (.tup M2) := m2
  have w3 : Shal (.tup M1) := shal_of fun d h => by rw [u1 d h]; exact og.ok
  have w4 : Shal (.tup M2) := shal_of fun d h => by rw [u2 d h]; exact og.ok
  obtain ⟨q, hq, q6⟩ := min_n ns.length
  obtain ⟨r, hr, r6⟩ := max_n q q6
  simp only [runF, startE, I35, List.map_cons, List.map_nil, List.length_cons, List.length_nil, List.replicate, List.cons_append, List.nil_append, List.append_nil, Nat.reduceAdd, Nat.reduceSub, Nat.zero_add,
      e_var, e_con, e_bin, k_bin1, k_bin2, e_neg, k_neg, e_not, k_not, e_and, k_and, e_or, k_or, e_cmp, k_cmp1, k_cmp2, e_chain, k_ch1, k_ch2, e_ite, k_ite, e_call, k_call1, k_call2, e_blt, k_blt, e_meth, k_meth1, k_meth2, e_tup, e_lst, e_dct0, e_dcd, e_idx, k_idx1, k_idx2, e_slc, k_slc1, k_slc2, k_slc3, o_none, o_some, k_o, e_new, k_new, e_lc, k_lc, lc_g, es_nil, es_cons, k_es1, k_es2, t_nil, t_cons, k_t, i_val, i_range, i_enum, k_ent, k_enl, enumD, s_par, k_par, setAll, k_body, k_turn, k_ivl, k_ivt, k_ivs,
      g_name, g_tup, g_sub, k_sub1, gs_nil, gs_cons, k_gs, s_asg, k_asg1, k_nx, s_expr, k_expr, s_ret, k_ret, s_iff, k_if, s_for, k_for, s_aug, s_pass, ss_nil, ss_cons, k_ss, bind_ok, bind_exc, bind_stuck, go_ok, go_exc, seq_nx, seq_rt, seq_exc, turn_nx, turn_rt, turn_exc, calm_ok', end_d, end_nx, end_exc, tru_bl, give, give_b, ders, der, arrD, List.getElem?_cons_zero, List.getElem?_cons_succ, List.set_cons_zero, List.set_cons_succ, if_true, if_false, Bool.false_eq_true, Bool.not_true, Bool.not_false, List.take_length,
      e_isi, k_isi, e_tin, k_tinP, k_tinN, e_tget, k_tget, g_star, i_zip, is_int_non, is_int_bl, is_int_int, is_int_str, is_int_tup, is_int_lst, is_int_dct, is_str_non, is_str_bl, is_str_int, is_str_str, is_str_tup, is_str_lst, is_str_dct, is_bool_non, is_bool_bl, is_bool_int, is_bool_str, is_bool_tup, is_bool_lst, is_bool_dct, is_tuple_non, is_tuple_bl, is_tuple_int, is_tuple_str, is_tuple_tup, is_tuple_lst, is_tuple_dct, is_list_non, is_list_bl, is_list_int, is_list_str, is_list_tup, is_list_lst, is_list_dct, is_dict_non, is_dict_bl, is_dict_int, is_dict_str, is_dict_tup, is_dict_lst, is_dict_dct,
      bfD, len_s, len_l, len_t, c_eq_ii, c_ne_ii, c_lt_ii, c_le_ii, c_gt_ii, c_ge_ii, c_is_non, c_isn_non, noneD, Int.cast_ofNat_Int, Int.reduceEq, Int.reduceLT, Int.reduceLE, decide_true, decide_false, kTup, kLst, pures, sizeLine_eq, Nat.reduceLeDiff, g_tupq, idx_q0, idx_q1, is_tuple_q, len_q, k_ivq, m1, m2]
  rw [add_l _ _ (by simp)]
  generalize hz : (_ ++ _ : List D) = zs
  have ho : ∀ y ∈ zs, Shal y := by
    rw [← hz]
    intro y hy
    simp only [List.cons_append, List.nil_append, List.mem_cons, List.not_mem_nil, or_false] at hy
    rcases hy with rfl | rfl | rfl | rfl | rfl | rfl | rfl | rfl | rfl | rfl | rfl | rfl | rfl | rfl | rfl | rfl
    all_goals first | exact w3 | exact w4 | (intro _ h; cases h; done) | (refine shal_of fun d hd _ _ => ?_; simp only [List.mem_cons, List.not_mem_nil, or_false, or_self] at hd <;> first | (cases hd; done) | (subst hd; decide) | (rcases hd with rfl | rfl <;> decide))
  have hzl : zs.length ≤ 16777216 := by rw [← hz]; simp
  have h1 := all_right T L (st := ([] : Sto)) (F := Fn t (k + 5)) (el := I35e1) (i := 2) (en := [some (.d (.lst (ns.map D.int))), some (.d (.lst zs)), none, none, none]) zs fun M hM => by
    simp only [I35e1, List.map_cons, List.map_nil, List.length_cons, List.length_nil, List.replicate, List.cons_append, List.nil_append, List.append_nil, Nat.reduceAdd, Nat.reduceSub, Nat.zero_add,
      e_var, e_con, e_bin, k_bin1, k_bin2, e_neg, k_neg, e_not, k_not, e_and, k_and, e_or, k_or, e_cmp, k_cmp1, k_cmp2, e_chain, k_ch1, k_ch2, e_ite, k_ite, e_call, k_call1, k_call2, e_blt, k_blt, e_meth, k_meth1, k_meth2, e_tup, e_lst, e_dct0, e_dcd, e_idx, k_idx1, k_idx2, e_slc, k_slc1, k_slc2, k_slc3, o_none, o_some, k_o, e_new, k_new, e_lc, k_lc, lc_g, es_nil, es_cons, k_es1, k_es2, t_nil, t_cons, k_t, i_val, i_range, i_enum, k_ent, k_enl, enumD, s_par, k_par, setAll, k_body, k_turn, k_ivl, k_ivt, k_ivs,
      g_name, g_tup, g_sub, k_sub1, gs_nil, gs_cons, k_gs, s_asg, k_asg1, k_nx, s_expr, k_expr, s_ret, k_ret, s_iff, k_if, s_for, k_for, s_aug, s_pass, ss_nil, ss_cons, k_ss, bind_ok, bind_exc, bind_stuck, go_ok, go_exc, seq_nx, seq_rt, seq_exc, turn_nx, turn_rt, turn_exc, calm_ok', end_d, end_nx, end_exc, tru_bl, give, give_b, ders, der, arrD, List.getElem?_cons_zero, List.getElem?_cons_succ, List.set_cons_zero, List.set_cons_succ, if_true, if_false, Bool.false_eq_true, Bool.not_true, Bool.not_false, List.take_length,
      e_isi, k_isi, e_tin, k_tinP, k_tinN, e_tget, k_tget, g_star, i_zip, is_int_non, is_int_bl, is_int_int, is_int_str, is_int_tup, is_int_lst, is_int_dct, is_str_non, is_str_bl, is_str_int, is_str_str, is_str_tup, is_str_lst, is_str_dct, is_bool_non, is_bool_bl, is_bool_int, is_bool_str, is_bool_tup, is_bool_lst, is_bool_dct, is_tuple_non, is_tuple_bl, is_tuple_int, is_tuple_str, is_tuple_tup, is_tuple_lst, is_tuple_dct, is_list_non, is_list_bl, is_list_int, is_list_str, is_list_tup, is_list_lst, is_list_dct, is_dict_non, is_dict_bl, is_dict_int, is_dict_str, is_dict_tup, is_dict_lst, is_dict_dct,
      bfD, len_s, len_l, len_t, c_eq_ii, c_ne_ii, c_lt_ii, c_le_ii, c_gt_ii, c_ge_ii, c_is_non, c_isn_non, noneD, Int.cast_ofNat_Int, Int.reduceEq, Int.reduceLT, Int.reduceLE, decide_true, decide_false, kTup, kLst, pures, sizeLine_eq, Nat.reduceLeDiff, g_tupq, idx_q0, idx_q1, is_tuple_q, len_q, k_ivq, right_ok T L k M (ho M hM)]
  obtain ⟨en2, st2, f1, o2, o3, o4, rfl⟩ := for_invN (e := fun (i : Nat) => D.int i) (F := Fn t (k + 5)) (i := 3) (b := I35b1) (I := fun en _ => ∃ o2 o3 o4, en = [some (.d (.lst (ns.map D.int))), some (.d (.lst zs)), o2, o3, o4])
    (List.range r) [some (.d (.lst (ns.map D.int))), some (.d (.lst zs)), none, none, none] [] ⟨_, _, _, rfl⟩ (by
      rintro i hi en st ⟨o2, o3, o4, rfl⟩
      have hi2 : i < 2 ^ 60 := by rw [List.mem_range] at hi; omega
      obtain ⟨v, c1⟩ := cell_ok T (k + 4) (ns := ns) (i := i) (st := st) hi2
      obtain ⟨p, c2, hp⟩ := pool_ok T (k + 4) (st := st) v
      obtain ⟨Ms, s3, c3, d3, hM, lM⟩ := books_new T L (k + 2) (pool_at (st := st) hp)
      have h2 := all_right T L (st := s3) (F := Fn t (k + 5)) (el := I35e2) (i := 2) (en := [some (.d (.lst (ns.map D.int))), some (.d (.lst zs)), none, some (.d (.int i)), some (.ref st.length)]) Ms fun M hm => by
        simp only [I35e2, List.map_cons, List.map_nil, List.length_cons, List.length_nil, List.replicate, List.cons_append, List.nil_append, List.append_nil, Nat.reduceAdd, Nat.reduceSub, Nat.zero_add,
      e_var, e_con, e_bin, k_bin1, k_bin2, e_neg, k_neg, e_not, k_not, e_and, k_and, e_or, k_or, e_cmp, k_cmp1, k_cmp2, e_chain, k_ch1, k_ch2, e_ite, k_ite, e_call, k_call1, k_call2, e_blt, k_blt, e_meth, k_meth1, k_meth2, e_tup, e_lst, e_dct0, e_dcd, e_idx, k_idx1, k_idx2, e_slc, k_slc1, k_slc2, k_slc3, o_none, o_some, k_o, e_new, k_new, e_lc, k_lc, lc_g, es_nil, es_cons, k_es1, k_es2, t_nil, t_cons, k_t, i_val, i_range, i_enum, k_ent, k_enl, enumD, s_par, k_par, setAll, k_body, k_turn, k_ivl, k_ivt, k_ivs,
      g_name, g_tup, g_sub, k_sub1, gs_nil, gs_cons, k_gs, s_asg, k_asg1, k_nx, s_expr, k_expr, s_ret, k_ret, s_iff, k_if, s_for, k_for, s_aug, s_pass, ss_nil, ss_cons, k_ss, bind_ok, bind_exc, bind_stuck, go_ok, go_exc, seq_nx, seq_rt, seq_exc, turn_nx, turn_rt, turn_exc, calm_ok', end_d, end_nx, end_exc, tru_bl, give, give_b, ders, der, arrD, List.getElem?_cons_zero, List.getElem?_cons_succ, List.set_cons_zero, List.set_cons_succ, if_true, if_false, Bool.false_eq_true, Bool.not_true, Bool.not_false, List.take_length,
      e_isi, k_isi, e_tin, k_tinP, k_tinN, e_tget, k_tget, g_star, i_zip, is_int_non, is_int_bl, is_int_int, is_int_str, is_int_tup, is_int_lst, is_int_dct, is_str_non, is_str_bl, is_str_int, is_str_str, is_str_tup, is_str_lst, is_str_dct, is_bool_non, is_bool_bl, is_bool_int, is_bool_str, is_bool_tup, is_bool_lst, is_bool_dct, is_tuple_non, is_tuple_bl, is_tuple_int, is_tuple_str, is_tuple_tup, is_tuple_lst, is_tuple_dct, is_list_non, is_list_bl, is_list_int, is_list_str, is_list_tup, is_list_lst, is_list_dct, is_dict_non, is_dict_bl, is_dict_int, is_dict_str, is_dict_tup, is_dict_lst, is_dict_dct,
      bfD, len_s, len_l, len_t, c_eq_ii, c_ne_ii, c_lt_ii, c_le_ii, c_gt_ii, c_ge_ii, c_is_non, c_isn_non, noneD, Int.cast_ofNat_Int, Int.reduceEq, Int.reduceLT, Int.reduceLE, decide_true, decide_false, kTup, kLst, pures, sizeLine_eq, Nat.reduceLeDiff, g_tupq, idx_q0, idx_q1, is_tuple_q, len_q, k_ivq, right_ok T L k M (hM M hm)]
      have hMl : Ms.length ≤ 16777216 := by omega
      refine ⟨[some (.d (.lst (ns.map D.int))), some (.d (.lst zs)), o2, some (.d (.int i)), some (.ref st.length)], s3, ?_, _, _, _, rfl⟩
      simp only [I35b1, List.map_cons, List.map_nil, List.length_cons, List.length_nil, List.replicate, List.cons_append, List.nil_append, List.append_nil, Nat.reduceAdd, Nat.reduceSub, Nat.zero_add,
      e_var, e_con, e_bin, k_bin1, k_bin2, e_neg, k_neg, e_not, k_not, e_and, k_and, e_or, k_or, e_cmp, k_cmp1, k_cmp2, e_chain, k_ch1, k_ch2, e_ite, k_ite, e_call, k_call1, k_call2, e_blt, k_blt, e_meth, k_meth1, k_meth2, e_tup, e_lst, e_dct0, e_dcd, e_idx, k_idx1, k_idx2, e_slc, k_slc1, k_slc2, k_slc3, o_none, o_some, k_o, e_new, k_new, e_lc, k_lc, lc_g, es_nil, es_cons, k_es1, k_es2, t_nil, t_cons, k_t, i_val, i_range, i_enum, k_ent, k_enl, enumD, s_par, k_par, setAll, k_body, k_turn, k_ivl, k_ivt, k_ivs,
      g_name, g_tup, g_sub, k_sub1, gs_nil, gs_cons, k_gs, s_asg, k_asg1, k_nx, s_expr, k_expr, s_ret, k_ret, s_iff, k_if, s_for, k_for, s_aug, s_pass, ss_nil, ss_cons, k_ss, bind_ok, bind_exc, bind_stuck, go_ok, go_exc, seq_nx, seq_rt, seq_exc, turn_nx, turn_rt, turn_exc, calm_ok', end_d, end_nx, end_exc, tru_bl, give, give_b, ders, der, arrD, List.getElem?_cons_zero, List.getElem?_cons_succ, List.set_cons_zero, List.set_cons_succ, if_true, if_false, Bool.false_eq_true, Bool.not_true, Bool.not_false, List.take_length,
      e_isi, k_isi, e_tin, k_tinP, k_tinN, e_tget, k_tget, g_star, i_zip, is_int_non, is_int_bl, is_int_int, is_int_str, is_int_tup, is_int_lst, is_int_dct, is_str_non, is_str_bl, is_str_int, is_str_str, is_str_tup, is_str_lst, is_str_dct, is_bool_non, is_bool_bl, is_bool_int, is_bool_str, is_bool_tup, is_bool_lst, is_bool_dct, is_tuple_non, is_tuple_bl, is_tuple_int, is_tuple_str, is_tuple_tup, is_tuple_lst, is_tuple_dct, is_list_non, is_list_bl, is_list_int, is_list_str, is_list_tup, is_list_lst, is_list_dct, is_dict_non, is_dict_bl, is_dict_int, is_dict_str, is_dict_tup, is_dict_lst, is_dict_dct,
      bfD, len_s, len_l, len_t, c_eq_ii, c_ne_ii, c_lt_ii, c_le_ii, c_gt_ii, c_ge_ii, c_is_non, c_isn_non, noneD, Int.cast_ofNat_Int, Int.reduceEq, Int.reduceLT, Int.reduceLE, decide_true, decide_false, kTup, kLst, pures, sizeLine_eq, Nat.reduceLeDiff, g_tupq, idx_q0, idx_q1, is_tuple_q, len_q, k_ivq, c1, c2, c3, hMl, wipeE, h2, all_tt T L])
  simp only [List.map_cons, List.map_nil, List.length_cons, List.length_nil, List.replicate, List.cons_append, List.nil_append, List.append_nil, Nat.reduceAdd, Nat.reduceSub, Nat.zero_add,
      e_var, e_con, e_bin, k_bin1, k_bin2, e_neg, k_neg, e_not, k_not, e_and, k_and, e_or, k_or, e_cmp, k_cmp1, k_cmp2, e_chain, k_ch1, k_ch2, e_ite, k_ite, e_call, k_call1, k_call2, e_blt, k_blt, e_meth, k_meth1, k_meth2, e_tup, e_lst, e_dct0, e_dcd, e_idx, k_idx1, k_idx2, e_slc, k_slc1, k_slc2, k_slc3, o_none, o_some, k_o, e_new, k_new, e_lc, k_lc, lc_g, es_nil, es_cons, k_es1, k_es2, t_nil, t_cons, k_t, i_val, i_range, i_enum, k_ent, k_enl, enumD, s_par, k_par, setAll, k_body, k_turn, k_ivl, k_ivt, k_ivs,
      g_name, g_tup, g_sub, k_sub1, gs_nil, gs_cons, k_gs, s_asg, k_asg1, k_nx, s_expr, k_expr, s_ret, k_ret, s_iff, k_if, s_for, k_for, s_aug, s_pass, ss_nil, ss_cons, k_ss, bind_ok, bind_exc, bind_stuck, go_ok, go_exc, seq_nx, seq_rt, seq_exc, turn_nx, turn_rt, turn_exc, calm_ok', end_d, end_nx, end_exc, tru_bl, give, give_b, ders, der, arrD, List.getElem?_cons_zero, List.getElem?_cons_succ, List.set_cons_zero, List.set_cons_succ, if_true, if_false, Bool.false_eq_true, Bool.not_true, Bool.not_false, List.take_length,
      e_isi, k_isi, e_tin, k_tinP, k_tinN, e_tget, k_tget, g_star, i_zip, is_int_non, is_int_bl, is_int_int, is_int_str, is_int_tup, is_int_lst, is_int_dct, is_str_non, is_str_bl, is_str_int, is_str_str, is_str_tup, is_str_lst, is_str_dct, is_bool_non, is_bool_bl, is_bool_int, is_bool_str, is_bool_tup, is_bool_lst, is_bool_dct, is_tuple_non, is_tuple_bl, is_tuple_int, is_tuple_str, is_tuple_tup, is_tuple_lst, is_tuple_dct, is_list_non, is_list_bl, is_list_int, is_list_str, is_list_tup, is_list_lst, is_list_dct, is_dict_non, is_dict_bl, is_dict_int, is_dict_str, is_dict_tup, is_dict_lst, is_dict_dct,
      bfD, len_s, len_l, len_t, c_eq_ii, c_ne_ii, c_lt_ii, c_le_ii, c_gt_ii, c_ge_ii, c_is_non, c_isn_non, noneD, Int.cast_ofNat_Int, Int.reduceEq, Int.reduceLT, Int.reduceLE, decide_true, decide_false, kTup, kLst, pures, sizeLine_eq, Nat.reduceLeDiff, g_tupq, idx_q0, idx_q1, is_tuple_q, len_q, k_ivq, hzl, wipeE, h1, all_tt T L, List.length_map, hq, hr, kirN r _ (show r < 4611686018427387904 by omega), f1, List.take_zero]
end
end TW
namespace TW
open PySem PySem.Spec PyProof.Rows L2
def topS (i : Nat) : Stmt := PySem.Challenge.pw_thankways_k05_books_of_any_kind.main.body.getD i (.Pass ⟨0, 0, 0, 0⟩)
/-- is_whole -/
def di0 : DI := ⟨"is_whole", 26, topS 8, ["thing", "least", "most"], ["thing", "least", "most"], [], false⟩
/-- is_name -/
def di1 : DI := ⟨"is_name", 21, topS 9, ["thing"], ["thing", "letter"], [], false⟩
/-- fits -/
def di2 : DI := ⟨"fits", 27, topS 10, ["part", "form"], ["part", "form"], [], false⟩
/-- is_deed -/
def di3 : DI := ⟨"is_deed", 28, topS 11, ["thing"], ["thing", "word", "parts", "part", "form"], [], false⟩
/-- is_book -/
def di4 : DI := ⟨"is_book", 29, topS 12, ["thing"], ["thing", "deed"], [], false⟩
/-- _law_cell -/
def di5 : DI := ⟨"_law_cell", 12, topS 14, ["_law_script", "_law_k"], ["_law_script", "_law_k", "_law_state", "_law_cell_here"], [], false⟩
/-- _law_pool -/
def di6 : DI := ⟨"_law_pool", 13, topS 15, ["_law_cell_here"], ["_law_cell_here", "_law_digits"], [], true⟩
/-- _law_take -/
def di7 : DI := ⟨"_law_take", 14, topS 16, ["_law_pool_here", "_law_many"], ["_law_pool_here", "_law_many", "_law_state", "_law_digit"], [], false⟩
/-- _law_is_name -/
def di8 : DI := ⟨"_law_is_name", 22, topS 17, ["_law_matter"], ["_law_matter", "_law_sign"], [], false⟩
/-- _law_is_deed -/
def di9 : DI := ⟨"_law_is_deed", 30, topS 18, ["_law_matter"], ["_law_matter", "_law_forms", "_law_sorts", "_law_part", "_law_sort"], [], false⟩
/-- _law_deed -/
def di10 : DI := ⟨"_law_deed", 31, topS 19, ["_law_pool_here"], ["_law_pool_here", "_law_word", "_law_names", "_law_k", "_law_turn", "_law_one", "_law_two", "_law_many"], [], false⟩
/-- _law_odd -/
def di11 : DI := ⟨"_law_odd", 32, topS 20, ["_law_pool_here", "_law_deed_here"], ["_law_pool_here", "_law_deed_here", "_law_some"], [], false⟩
/-- _law_books -/
def di12 : DI := ⟨"_law_books", 33, topS 21, ["_law_pool_here"], ["_law_pool_here", "_law_many", "_law_deeds", "_law_turn", "_law_at", "_law_deed_here", "_law_found"], [], false⟩
/-- _law_right -/
def di13 : DI := ⟨"_law_right", 34, topS 22, ["_law_matter"], ["_law_matter", "_law_due", "_law_part", "_law_told"], [], false⟩
/-- law -/
def di14 : DI := ⟨"law", 35, topS 23, ["_law_script"], ["_law_script", "_law_odd_here", "_law_matter", "_law_k", "_law_pool_here"], [], false⟩
def dis : List DI := [di0, di1, di2, di3, di4, di5, di6, di7, di8, di9, di10, di11, di12, di13, di14]
def pg : Pg := ⟨[("BOTH_WANTED", .tup [.str "give", .str "hand", .str "forget"]), ("CHEST", .str "chest"), ("LETTERS", .str "abcdefghijklmnopqrstuvwxyz"), ("LONGEST_NAME", .int (8)), ("MOST_DEEDS", .int (60)), ("MOST_MEASURES", .int (9999))], ["abs", "all", "bool", "divmod", "int", "isinstance", "len", "list", "max", "min", "range", "str", "tuple", "zip"],
  [⟨"is_name", 1, [], 21, [.inl 0]⟩,
  ⟨"is_whole", 3, [], 26, [.inl 0, .inl 1, .inl 2]⟩,
  ⟨"fits", 2, [], 27, [.inl 0, .inl 1]⟩,
  ⟨"is_deed", 1, [], 28, [.inl 0]⟩,
  ⟨"_law_is_name", 1, [], 22, [.inl 0]⟩,
  ⟨"_law_take", 2, [], 14, [.inl 0, .inl 1]⟩,
  ⟨"_law_deed", 1, [], 31, [.inl 0]⟩,
  ⟨"_law_odd", 2, [], 32, [.inl 0, .inl 1]⟩,
  ⟨"is_book", 1, [], 29, [.inl 0]⟩,
  ⟨"is_book", 0, ["thing"], 29, [.inl 0]⟩,
  ⟨"_law_is_deed", 1, [], 30, [.inl 0]⟩,
  ⟨"_law_pool", 1, [], 13, [.inl 0]⟩,
  ⟨"_law_cell", 2, [], 12, [.inl 0, .inl 1]⟩,
  ⟨"_law_right", 1, [], 34, [.inl 0]⟩,
  ⟨"_law_books", 1, [], 33, [.inl 0]⟩],
  [("FORMS", [("come", .tup [.str "name"]), ("bring", .tup [.str "name", .str "name", .str "measures"]), ("give", .tup [.str "name", .str "name", .str "measures"]), ("hand", .tup [.str "name", .str "name", .str "name", .str "measures"]), ("forget", .tup [.str "name", .str "name or chest", .str "measures"]), ("go", .tup [.str "name"])])]⟩
def tbl : Tbl := fun i => (match TC i with | some r => some r | none => (match TL05 i with | some r => some r | none => none))
theorem sub_TC : Sub TC tbl := fun i r h => by simp only [tbl, h]
theorem sub_TL05 : Sub TL05 tbl := by
  intro i r h
  unfold TL05 at h
  split at h <;> first | (cases h; rfl) | cases h
theorem dcl0 : DC pg tbl di0 := ⟨⟨rfl, rfl, rfl, by decide +kernel, rfl, by decide +kernel, by decide +kernel⟩, ⟨I26, rfl, by kernel_rfl⟩⟩
theorem dcl1 : DC pg tbl di1 := ⟨⟨rfl, rfl, rfl, by decide +kernel, rfl, by decide +kernel, by decide +kernel⟩, ⟨I21, rfl, by kernel_rfl⟩⟩
theorem dcl2 : DC pg tbl di2 := ⟨⟨rfl, rfl, rfl, by decide +kernel, rfl, by decide +kernel, by decide +kernel⟩, ⟨I27, rfl, by kernel_rfl⟩⟩
theorem dcl3 : DC pg tbl di3 := ⟨⟨rfl, rfl, rfl, by decide +kernel, rfl, by decide +kernel, by decide +kernel⟩, ⟨I28, rfl, by kernel_rfl⟩⟩
theorem dcl4 : DC pg tbl di4 := ⟨⟨rfl, rfl, rfl, by decide +kernel, rfl, by decide +kernel, by decide +kernel⟩, ⟨I29, rfl, by kernel_rfl⟩⟩
theorem dcl5 : DC pg tbl di5 := ⟨⟨rfl, rfl, rfl, by decide +kernel, rfl, by decide +kernel, by decide +kernel⟩, ⟨I12, rfl, by kernel_rfl⟩⟩
theorem dcl6 : DC pg tbl di6 := ⟨⟨rfl, rfl, rfl, by decide +kernel, rfl, by decide +kernel, by decide +kernel⟩, ⟨I13, rfl, by kernel_rfl⟩⟩
theorem dcl7 : DC pg tbl di7 := ⟨⟨rfl, rfl, rfl, by decide +kernel, rfl, by decide +kernel, by decide +kernel⟩, ⟨I14, rfl, by kernel_rfl⟩⟩
theorem dcl8 : DC pg tbl di8 := ⟨⟨rfl, rfl, rfl, by decide +kernel, rfl, by decide +kernel, by decide +kernel⟩, ⟨I22, rfl, by kernel_rfl⟩⟩
theorem dcl9 : DC pg tbl di9 := ⟨⟨rfl, rfl, rfl, by decide +kernel, rfl, by decide +kernel, by decide +kernel⟩, ⟨I30, rfl, by kernel_rfl⟩⟩
theorem dcl10 : DC pg tbl di10 := ⟨⟨rfl, rfl, rfl, by decide +kernel, rfl, by decide +kernel, by decide +kernel⟩, ⟨I31, rfl, by kernel_rfl⟩⟩
theorem dcl11 : DC pg tbl di11 := ⟨⟨rfl, rfl, rfl, by decide +kernel, rfl, by decide +kernel, by decide +kernel⟩, ⟨I32, rfl, by kernel_rfl⟩⟩
theorem dcl12 : DC pg tbl di12 := ⟨⟨rfl, rfl, rfl, by decide +kernel, rfl, by decide +kernel, by decide +kernel⟩, ⟨I33, rfl, by kernel_rfl⟩⟩
theorem dcl13 : DC pg tbl di13 := ⟨⟨rfl, rfl, rfl, by decide +kernel, rfl, by decide +kernel, by decide +kernel⟩, ⟨I34, rfl, by kernel_rfl⟩⟩
theorem dcl14 : DC pg tbl di14 := ⟨⟨rfl, rfl, rfl, by decide +kernel, rfl, by decide +kernel, by decide +kernel⟩, ⟨I35, rfl, by kernel_rfl⟩⟩
theorem law_true : ∀ ns : List Int, ns.length ≤ 63 → Fn tbl 6 35 [.d (.lst (ns.map D.int))] [] = .ok (.d (.bl true)) [] := fun ns h => law05 sub_TC sub_TL05 0 ns
set_option maxHeartbeats 0 in
theorem all_mk {P : Program} {w : World} {K : PySem.W.Frag} {h : Heap} {mg : Str → Option Value} {fa : Addr} (X : K.In h) (G : h.Ns mainGlobals mg) (hfa : mg "law" = some (.ref fa))
    {f0 : Addr} {od0 an0 : Option Addr} {sl0 : Array (Option Value)} {oc0 kV0 dc0 pm0 cd0 ct0 : Value}
    {f1 : Addr} {od1 an1 : Option Addr} {sl1 : Array (Option Value)} {oc1 kV1 dc1 pm1 cd1 ct1 : Value}
    {f2 : Addr} {od2 an2 : Option Addr} {sl2 : Array (Option Value)} {oc2 kV2 dc2 pm2 cd2 ct2 : Value}
    {f3 : Addr} {od3 an3 : Option Addr} {sl3 : Array (Option Value)} {oc3 kV3 dc3 pm3 cd3 ct3 : Value}
    {f4 : Addr} {od4 an4 : Option Addr} {sl4 : Array (Option Value)} {oc4 kV4 dc4 pm4 cd4 ct4 : Value}
    {f5 : Addr} {od5 an5 : Option Addr} {sl5 : Array (Option Value)} {oc5 kV5 dc5 pm5 cd5 ct5 : Value}
    {f6 : Addr} {od6 an6 : Option Addr} {sl6 : Array (Option Value)} {oc6 kV6 dc6 pm6 cd6 ct6 : Value}
    {f7 : Addr} {od7 an7 : Option Addr} {sl7 : Array (Option Value)} {oc7 kV7 dc7 pm7 cd7 ct7 : Value}
    {f8 : Addr} {od8 an8 : Option Addr} {sl8 : Array (Option Value)} {oc8 kV8 dc8 pm8 cd8 ct8 : Value}
    {f9 : Addr} {od9 an9 : Option Addr} {sl9 : Array (Option Value)} {oc9 kV9 dc9 pm9 cd9 ct9 : Value}
    {f10 : Addr} {od10 an10 : Option Addr} {sl10 : Array (Option Value)} {oc10 kV10 dc10 pm10 cd10 ct10 : Value}
    {f11 : Addr} {od11 an11 : Option Addr} {sl11 : Array (Option Value)} {oc11 kV11 dc11 pm11 cd11 ct11 : Value}
    {f12 : Addr} {od12 an12 : Option Addr} {sl12 : Array (Option Value)} {oc12 kV12 dc12 pm12 cd12 ct12 : Value}
    {f13 : Addr} {od13 an13 : Option Addr} {sl13 : Array (Option Value)} {oc13 kV13 dc13 pm13 cd13 ct13 : Value}
    {f14 : Addr} {od14 an14 : Option Addr} {sl14 : Array (Option Value)} {oc14 kV14 dc14 pm14 cd14 ct14 : Value}
    {gag0_1 : Addr}
    {tkg0_2 : Tok}
    {tkg0_3 : Tok}
    {tkg0_4 : Tok}
    {godg0_5 : Option Addr} {gslg0_6 : Array (Option Value)} {gng0_7 : Nat}
    {tkg1_1 : Tok}
    {tkg2_1 : Tok}
    {tkg3_1 : Tok}
    {tkg4_1 : Tok}
    {tkg5_1 : Tok}
    {tA0 : Addr} {tn0 : Nat}
    {gat0_1 : Addr}
    {tkt0_2 : Tok}
    {godt0_3 : Option Addr} {gslt0_4 : Array (Option Value)} {gnt0_5 : Nat}
    {thh0_0 : Int} {ttk0_0 : Tok}
    {gat0_7 : Addr}
    {tkt0_8 : Tok}
    {tkt0_9 : Tok}
    {tkt0_10 : Tok}
    {godt0_11 : Option Addr} {gslt0_12 : Array (Option Value)} {gnt0_13 : Nat}
    {thh0_1 : Int} {ttk0_1 : Tok}
    {gat0_15 : Addr}
    {tkt0_16 : Tok}
    {tkt0_17 : Tok}
    {tkt0_18 : Tok}
    {godt0_19 : Option Addr} {gslt0_20 : Array (Option Value)} {gnt0_21 : Nat}
    {thh0_2 : Int} {ttk0_2 : Tok}
    {gat0_23 : Addr}
    {tkt0_24 : Tok}
    {tkt0_25 : Tok}
    {tkt0_26 : Tok}
    {tkt0_27 : Tok}
    {godt0_28 : Option Addr} {gslt0_29 : Array (Option Value)} {gnt0_30 : Nat}
    {thh0_3 : Int} {ttk0_3 : Tok}
    {gat0_32 : Addr}
    {tkt0_33 : Tok}
    {tkt0_34 : Tok}
    {tkt0_35 : Tok}
    {godt0_36 : Option Addr} {gslt0_37 : Array (Option Value)} {gnt0_38 : Nat}
    {thh0_4 : Int} {ttk0_4 : Tok}
    {gat0_40 : Addr}
    {tkt0_41 : Tok}
    {godt0_42 : Option Addr} {gslt0_43 : Array (Option Value)} {gnt0_44 : Nat}
    {thh0_5 : Int} {ttk0_5 : Tok}
    (a0 : PySem.W.nsIn K mainGlobals "is_whole" = some (some (.ref f0))) (l0 : K.lookup f0 = some ⟨oc0, od0, .func (PySem.W.fnOf "is_whole" "is_whole" (defArgs di0.st) (defBody di0.st) (defScope di0.st) .none kV0 dc0 pm0 an0 cd0 ct0), sl0⟩) (c0 : PySem.W.codeIn K cd0 "is_whole" = true) (k0 : PySem.W.keepIn K (.ref f0) = true)
    (a1 : PySem.W.nsIn K mainGlobals "is_name" = some (some (.ref f1))) (l1 : K.lookup f1 = some ⟨oc1, od1, .func (PySem.W.fnOf "is_name" "is_name" (defArgs di1.st) (defBody di1.st) (defScope di1.st) .none kV1 dc1 pm1 an1 cd1 ct1), sl1⟩) (c1 : PySem.W.codeIn K cd1 "is_name" = true) (k1 : PySem.W.keepIn K (.ref f1) = true)
    (a2 : PySem.W.nsIn K mainGlobals "fits" = some (some (.ref f2))) (l2 : K.lookup f2 = some ⟨oc2, od2, .func (PySem.W.fnOf "fits" "fits" (defArgs di2.st) (defBody di2.st) (defScope di2.st) .none kV2 dc2 pm2 an2 cd2 ct2), sl2⟩) (c2 : PySem.W.codeIn K cd2 "fits" = true) (k2 : PySem.W.keepIn K (.ref f2) = true)
    (a3 : PySem.W.nsIn K mainGlobals "is_deed" = some (some (.ref f3))) (l3 : K.lookup f3 = some ⟨oc3, od3, .func (PySem.W.fnOf "is_deed" "is_deed" (defArgs di3.st) (defBody di3.st) (defScope di3.st) .none kV3 dc3 pm3 an3 cd3 ct3), sl3⟩) (c3 : PySem.W.codeIn K cd3 "is_deed" = true) (k3 : PySem.W.keepIn K (.ref f3) = true)
    (a4 : PySem.W.nsIn K mainGlobals "is_book" = some (some (.ref f4))) (l4 : K.lookup f4 = some ⟨oc4, od4, .func (PySem.W.fnOf "is_book" "is_book" (defArgs di4.st) (defBody di4.st) (defScope di4.st) .none kV4 dc4 pm4 an4 cd4 ct4), sl4⟩) (c4 : PySem.W.codeIn K cd4 "is_book" = true) (k4 : PySem.W.keepIn K (.ref f4) = true)
    (a5 : PySem.W.nsIn K mainGlobals "_law_cell" = some (some (.ref f5))) (l5 : K.lookup f5 = some ⟨oc5, od5, .func (PySem.W.fnOf "_law_cell" "_law_cell" (defArgs di5.st) (defBody di5.st) (defScope di5.st) .none kV5 dc5 pm5 an5 cd5 ct5), sl5⟩) (c5 : PySem.W.codeIn K cd5 "_law_cell" = true) (k5 : PySem.W.keepIn K (.ref f5) = true)
    (a6 : PySem.W.nsIn K mainGlobals "_law_pool" = some (some (.ref f6))) (l6 : K.lookup f6 = some ⟨oc6, od6, .func (PySem.W.fnOf "_law_pool" "_law_pool" (defArgs di6.st) (defBody di6.st) (defScope di6.st) .none kV6 dc6 pm6 an6 cd6 ct6), sl6⟩) (c6 : PySem.W.codeIn K cd6 "_law_pool" = true) (k6 : PySem.W.keepIn K (.ref f6) = true)
    (a7 : PySem.W.nsIn K mainGlobals "_law_take" = some (some (.ref f7))) (l7 : K.lookup f7 = some ⟨oc7, od7, .func (PySem.W.fnOf "_law_take" "_law_take" (defArgs di7.st) (defBody di7.st) (defScope di7.st) .none kV7 dc7 pm7 an7 cd7 ct7), sl7⟩) (c7 : PySem.W.codeIn K cd7 "_law_take" = true) (k7 : PySem.W.keepIn K (.ref f7) = true)
    (a8 : PySem.W.nsIn K mainGlobals "_law_is_name" = some (some (.ref f8))) (l8 : K.lookup f8 = some ⟨oc8, od8, .func (PySem.W.fnOf "_law_is_name" "_law_is_name" (defArgs di8.st) (defBody di8.st) (defScope di8.st) .none kV8 dc8 pm8 an8 cd8 ct8), sl8⟩) (c8 : PySem.W.codeIn K cd8 "_law_is_name" = true) (k8 : PySem.W.keepIn K (.ref f8) = true)
    (a9 : PySem.W.nsIn K mainGlobals "_law_is_deed" = some (some (.ref f9))) (l9 : K.lookup f9 = some ⟨oc9, od9, .func (PySem.W.fnOf "_law_is_deed" "_law_is_deed" (defArgs di9.st) (defBody di9.st) (defScope di9.st) .none kV9 dc9 pm9 an9 cd9 ct9), sl9⟩) (c9 : PySem.W.codeIn K cd9 "_law_is_deed" = true) (k9 : PySem.W.keepIn K (.ref f9) = true)
    (a10 : PySem.W.nsIn K mainGlobals "_law_deed" = some (some (.ref f10))) (l10 : K.lookup f10 = some ⟨oc10, od10, .func (PySem.W.fnOf "_law_deed" "_law_deed" (defArgs di10.st) (defBody di10.st) (defScope di10.st) .none kV10 dc10 pm10 an10 cd10 ct10), sl10⟩) (c10 : PySem.W.codeIn K cd10 "_law_deed" = true) (k10 : PySem.W.keepIn K (.ref f10) = true)
    (a11 : PySem.W.nsIn K mainGlobals "_law_odd" = some (some (.ref f11))) (l11 : K.lookup f11 = some ⟨oc11, od11, .func (PySem.W.fnOf "_law_odd" "_law_odd" (defArgs di11.st) (defBody di11.st) (defScope di11.st) .none kV11 dc11 pm11 an11 cd11 ct11), sl11⟩) (c11 : PySem.W.codeIn K cd11 "_law_odd" = true) (k11 : PySem.W.keepIn K (.ref f11) = true)
    (a12 : PySem.W.nsIn K mainGlobals "_law_books" = some (some (.ref f12))) (l12 : K.lookup f12 = some ⟨oc12, od12, .func (PySem.W.fnOf "_law_books" "_law_books" (defArgs di12.st) (defBody di12.st) (defScope di12.st) .none kV12 dc12 pm12 an12 cd12 ct12), sl12⟩) (c12 : PySem.W.codeIn K cd12 "_law_books" = true) (k12 : PySem.W.keepIn K (.ref f12) = true)
    (a13 : PySem.W.nsIn K mainGlobals "_law_right" = some (some (.ref f13))) (l13 : K.lookup f13 = some ⟨oc13, od13, .func (PySem.W.fnOf "_law_right" "_law_right" (defArgs di13.st) (defBody di13.st) (defScope di13.st) .none kV13 dc13 pm13 an13 cd13 ct13), sl13⟩) (c13 : PySem.W.codeIn K cd13 "_law_right" = true) (k13 : PySem.W.keepIn K (.ref f13) = true)
    (a14 : PySem.W.nsIn K mainGlobals "law" = some (some (.ref f14))) (l14 : K.lookup f14 = some ⟨oc14, od14, .func (PySem.W.fnOf "law" "law" (defArgs di14.st) (defBody di14.st) (defScope di14.st) .none kV14 dc14 pm14 an14 cd14 ct14), sl14⟩) (c14 : PySem.W.codeIn K cd14 "law" = true) (k14 : PySem.W.keepIn K (.ref f14) = true)
    (z0 : PySem.W.nsIn K mainGlobals "abs" = some none)
    (z1 : PySem.W.nsIn K mainGlobals "all" = some none)
    (z2 : PySem.W.nsIn K mainGlobals "bool" = some none)
    (z3 : PySem.W.nsIn K mainGlobals "divmod" = some none)
    (z4 : PySem.W.nsIn K mainGlobals "int" = some none)
    (z5 : PySem.W.nsIn K mainGlobals "isinstance" = some none)
    (z6 : PySem.W.nsIn K mainGlobals "len" = some none)
    (z7 : PySem.W.nsIn K mainGlobals "list" = some none)
    (z8 : PySem.W.nsIn K mainGlobals "max" = some none)
    (z9 : PySem.W.nsIn K mainGlobals "min" = some none)
    (z10 : PySem.W.nsIn K mainGlobals "range" = some none)
    (z11 : PySem.W.nsIn K mainGlobals "str" = some none)
    (z12 : PySem.W.nsIn K mainGlobals "tuple" = some none)
    (z13 : PySem.W.nsIn K mainGlobals "zip" = some none)
    (glg0_8 : K.lookup gag0_1 = some ⟨.type "tuple", godg0_5, .seq #[(.str "give" tkg0_2), (.str "hand" tkg0_3), (.str "forget" tkg0_4)] gng0_7, gslg0_6⟩)
    (gc0 : PySem.W.nsIn K mainGlobals "BOTH_WANTED" = some (some (.ref gag0_1)))
    (gc1 : PySem.W.nsIn K mainGlobals "CHEST" = some (some (.str "chest" tkg1_1)))
    (gc2 : PySem.W.nsIn K mainGlobals "LETTERS" = some (some (.str "abcdefghijklmnopqrstuvwxyz" tkg2_1)))
    (gc3 : PySem.W.nsIn K mainGlobals "LONGEST_NAME" = some (some (.int (8) tkg3_1)))
    (gc4 : PySem.W.nsIn K mainGlobals "MOST_DEEDS" = some (some (.int (60) tkg4_1)))
    (gc5 : PySem.W.nsIn K mainGlobals "MOST_MEASURES" = some (some (.int (9999) tkg5_1)))
    (glt0_6 : K.lookup gat0_1 = some ⟨.type "tuple", godt0_3, .seq #[(.str "name" tkt0_2)] gnt0_5, gslt0_4⟩)
    (glt0_14 : K.lookup gat0_7 = some ⟨.type "tuple", godt0_11, .seq #[(.str "name" tkt0_8), (.str "name" tkt0_9), (.str "measures" tkt0_10)] gnt0_13, gslt0_12⟩)
    (glt0_22 : K.lookup gat0_15 = some ⟨.type "tuple", godt0_19, .seq #[(.str "name" tkt0_16), (.str "name" tkt0_17), (.str "measures" tkt0_18)] gnt0_21, gslt0_20⟩)
    (glt0_31 : K.lookup gat0_23 = some ⟨.type "tuple", godt0_28, .seq #[(.str "name" tkt0_24), (.str "name" tkt0_25), (.str "name" tkt0_26), (.str "measures" tkt0_27)] gnt0_30, gslt0_29⟩)
    (glt0_39 : K.lookup gat0_32 = some ⟨.type "tuple", godt0_36, .seq #[(.str "name" tkt0_33), (.str "name or chest" tkt0_34), (.str "measures" tkt0_35)] gnt0_38, gslt0_37⟩)
    (glt0_45 : K.lookup gat0_40 = some ⟨.type "tuple", godt0_42, .seq #[(.str "name" tkt0_41)] gnt0_44, gslt0_43⟩)
    (tl0 : K.lookup tA0 = some ⟨.type "dict", none, .dict #[⟨thh0_0, .str "come" ttk0_0, (.ref gat0_1)⟩, ⟨thh0_1, .str "bring" ttk0_1, (.ref gat0_7)⟩, ⟨thh0_2, .str "give" ttk0_2, (.ref gat0_15)⟩, ⟨thh0_3, .str "hand" ttk0_3, (.ref gat0_23)⟩, ⟨thh0_4, .str "forget" ttk0_4, (.ref gat0_32)⟩, ⟨thh0_5, .str "go" ttk0_5, (.ref gat0_40)⟩] tn0, #[]⟩)
    (tg0 : PySem.W.nsIn K mainGlobals "FORMS" = some (some (.ref tA0)))
    (ts0 : (tA0 == sysModules) = false)
    (th0_0 : thh0_0 = PyData.keyHash w.params "come")
    (th0_1 : thh0_1 = PyData.keyHash w.params "bring")
    (th0_2 : thh0_2 = PyData.keyHash w.params "give")
    (th0_3 : thh0_3 = PyData.keyHash w.params "hand")
    (th0_4 : thh0_4 = PyData.keyHash w.params "forget")
    (th0_5 : thh0_5 = PyData.keyHash w.params "go") :
    ∃ fd : FuncData, (∀ (s : Shared) (v : Value), BindsTo s fd ⟨[v], []⟩ [("_law_script", v)]) ∧ ∀ base : Heap, K.In base → base.Ns mainGlobals mg → FnOk P w K mg base (L2.CX P w) 6 fa fd ["_law_script"] (spLaw K 63) := by
  have e := hfa.symm.trans (PySem.W.mg_of X G a14)
  cases e
  have O : PgOk w K mg pg tbl dis [f0, f1, f2, f3, f4, f5, f6, f7, f8, f9, f10, f11, f12, f13, fa] [(PySem.W.fnOf "is_whole" "is_whole" (defArgs di0.st) (defBody di0.st) (defScope di0.st) .none kV0 dc0 pm0 an0 cd0 ct0),
      (PySem.W.fnOf "is_name" "is_name" (defArgs di1.st) (defBody di1.st) (defScope di1.st) .none kV1 dc1 pm1 an1 cd1 ct1),
      (PySem.W.fnOf "fits" "fits" (defArgs di2.st) (defBody di2.st) (defScope di2.st) .none kV2 dc2 pm2 an2 cd2 ct2),
      (PySem.W.fnOf "is_deed" "is_deed" (defArgs di3.st) (defBody di3.st) (defScope di3.st) .none kV3 dc3 pm3 an3 cd3 ct3),
      (PySem.W.fnOf "is_book" "is_book" (defArgs di4.st) (defBody di4.st) (defScope di4.st) .none kV4 dc4 pm4 an4 cd4 ct4),
      (PySem.W.fnOf "_law_cell" "_law_cell" (defArgs di5.st) (defBody di5.st) (defScope di5.st) .none kV5 dc5 pm5 an5 cd5 ct5),
      (PySem.W.fnOf "_law_pool" "_law_pool" (defArgs di6.st) (defBody di6.st) (defScope di6.st) .none kV6 dc6 pm6 an6 cd6 ct6),
      (PySem.W.fnOf "_law_take" "_law_take" (defArgs di7.st) (defBody di7.st) (defScope di7.st) .none kV7 dc7 pm7 an7 cd7 ct7),
      (PySem.W.fnOf "_law_is_name" "_law_is_name" (defArgs di8.st) (defBody di8.st) (defScope di8.st) .none kV8 dc8 pm8 an8 cd8 ct8),
      (PySem.W.fnOf "_law_is_deed" "_law_is_deed" (defArgs di9.st) (defBody di9.st) (defScope di9.st) .none kV9 dc9 pm9 an9 cd9 ct9),
      (PySem.W.fnOf "_law_deed" "_law_deed" (defArgs di10.st) (defBody di10.st) (defScope di10.st) .none kV10 dc10 pm10 an10 cd10 ct10),
      (PySem.W.fnOf "_law_odd" "_law_odd" (defArgs di11.st) (defBody di11.st) (defScope di11.st) .none kV11 dc11 pm11 an11 cd11 ct11),
      (PySem.W.fnOf "_law_books" "_law_books" (defArgs di12.st) (defBody di12.st) (defScope di12.st) .none kV12 dc12 pm12 an12 cd12 ct12),
      (PySem.W.fnOf "_law_right" "_law_right" (defArgs di13.st) (defBody di13.st) (defScope di13.st) .none kV13 dc13 pm13 an13 cd13 ct13),
      (PySem.W.fnOf "law" "law" (defArgs di14.st) (defBody di14.st) (defScope di14.st) .none kV14 dc14 pm14 an14 cd14 ct14)] := {
    gl := fun x d hx => by
      have hm := mem_of_lookup hx
      simp only [pg, List.mem_cons, List.not_mem_nil, or_false, Prod.mk.injEq] at hm
      rcases hm with ⟨rfl, rfl⟩ | ⟨rfl, rfl⟩ | ⟨rfl, rfl⟩ | ⟨rfl, rfl⟩ | ⟨rfl, rfl⟩ | ⟨rfl, rfl⟩
      · exact ⟨_, (.ref gag0_1), PySem.W.mg_of X G gc0, rfl, fun H => (rep_glob_tup glg0_8 (.cons (show RelV (.str "give") _ from ⟨_, rfl⟩) (.cons (show RelV (.str "hand") _ from ⟨_, rfl⟩) (.cons (show RelV (.str "forget") _ from ⟨_, rfl⟩) .nil))) (by simp) (.cons (by simp only [RepD]; exact ⟨trivial, by rw [sizeLine_eq]; decide +kernel, by decide +kernel⟩) (.cons (by simp only [RepD]; exact ⟨trivial, by rw [sizeLine_eq]; decide +kernel, by decide +kernel⟩) (.cons (by simp only [RepD]; exact ⟨trivial, by rw [sizeLine_eq]; decide +kernel, by decide +kernel⟩) .nil))))⟩
      · exact ⟨_, (.str "chest"), PySem.W.mg_of X G gc1, ⟨_, rfl⟩, fun H => (by simp only [RepD]; exact ⟨trivial, by rw [sizeLine_eq]; decide +kernel, by decide +kernel⟩)⟩
      · exact ⟨_, (.str "abcdefghijklmnopqrstuvwxyz"), PySem.W.mg_of X G gc2, ⟨_, rfl⟩, fun H => (by simp only [RepD]; exact ⟨trivial, by rw [sizeLine_eq]; decide +kernel, by decide +kernel⟩)⟩
      · exact ⟨_, (.int (8)), PySem.W.mg_of X G gc3, ⟨_, rfl⟩, fun H => (by simp only [RepD])⟩
      · exact ⟨_, (.int (60)), PySem.W.mg_of X G gc4, ⟨_, rfl⟩, fun H => (by simp only [RepD])⟩
      · exact ⟨_, (.int (9999)), PySem.W.mg_of X G gc5, ⟨_, rfl⟩, fun H => (by simp only [RepD])⟩
    bl := fun x hx => by
      simp only [pg, List.mem_cons, List.not_mem_nil, or_false] at hx
      rcases hx with rfl | rfl | rfl | rfl | rfl | rfl | rfl | rfl | rfl | rfl | rfl | rfl | rfl | rfl
      · exact PySem.W.mg_none_of X G z0
      · exact PySem.W.mg_none_of X G z1
      · exact PySem.W.mg_none_of X G z2
      · exact PySem.W.mg_none_of X G z3
      · exact PySem.W.mg_none_of X G z4
      · exact PySem.W.mg_none_of X G z5
      · exact PySem.W.mg_none_of X G z6
      · exact PySem.W.mg_none_of X G z7
      · exact PySem.W.mg_none_of X G z8
      · exact PySem.W.mg_none_of X G z9
      · exact PySem.W.mg_none_of X G z10
      · exact PySem.W.mg_none_of X G z11
      · exact PySem.W.mg_none_of X G z12
      · exact PySem.W.mg_none_of X G z13
    tb := fun x t hx => by
      have hm := mem_of_lookup hx
      simp only [pg, List.mem_cons, List.not_mem_nil, or_false, Prod.mk.injEq] at hm
      rcases hm with ⟨rfl, rfl⟩
      · exact tab_of (PySem.W.mg_of X G tg0) tl0 ts0 (.cons th0_0 (show RelV (.ref gat0_1) _ from rfl) (fun H => (rep_glob_tup glt0_6 (.cons (show RelV (.str "name") _ from ⟨_, rfl⟩) .nil) (by simp) (.cons (by simp only [RepD]; exact ⟨trivial, by rw [sizeLine_eq]; decide +kernel, by decide +kernel⟩) .nil))) (.cons th0_1 (show RelV (.ref gat0_7) _ from rfl) (fun H => (rep_glob_tup glt0_14 (.cons (show RelV (.str "name") _ from ⟨_, rfl⟩) (.cons (show RelV (.str "name") _ from ⟨_, rfl⟩) (.cons (show RelV (.str "measures") _ from ⟨_, rfl⟩) .nil))) (by simp) (.cons (by simp only [RepD]; exact ⟨trivial, by rw [sizeLine_eq]; decide +kernel, by decide +kernel⟩) (.cons (by simp only [RepD]; exact ⟨trivial, by rw [sizeLine_eq]; decide +kernel, by decide +kernel⟩) (.cons (by simp only [RepD]; exact ⟨trivial, by rw [sizeLine_eq]; decide +kernel, by decide +kernel⟩) .nil))))) (.cons th0_2 (show RelV (.ref gat0_15) _ from rfl) (fun H => (rep_glob_tup glt0_22 (.cons (show RelV (.str "name") _ from ⟨_, rfl⟩) (.cons (show RelV (.str "name") _ from ⟨_, rfl⟩) (.cons (show RelV (.str "measures") _ from ⟨_, rfl⟩) .nil))) (by simp) (.cons (by simp only [RepD]; exact ⟨trivial, by rw [sizeLine_eq]; decide +kernel, by decide +kernel⟩) (.cons (by simp only [RepD]; exact ⟨trivial, by rw [sizeLine_eq]; decide +kernel, by decide +kernel⟩) (.cons (by simp only [RepD]; exact ⟨trivial, by rw [sizeLine_eq]; decide +kernel, by decide +kernel⟩) .nil))))) (.cons th0_3 (show RelV (.ref gat0_23) _ from rfl) (fun H => (rep_glob_tup glt0_31 (.cons (show RelV (.str "name") _ from ⟨_, rfl⟩) (.cons (show RelV (.str "name") _ from ⟨_, rfl⟩) (.cons (show RelV (.str "name") _ from ⟨_, rfl⟩) (.cons (show RelV (.str "measures") _ from ⟨_, rfl⟩) .nil)))) (by simp) (.cons (by simp only [RepD]; exact ⟨trivial, by rw [sizeLine_eq]; decide +kernel, by decide +kernel⟩) (.cons (by simp only [RepD]; exact ⟨trivial, by rw [sizeLine_eq]; decide +kernel, by decide +kernel⟩) (.cons (by simp only [RepD]; exact ⟨trivial, by rw [sizeLine_eq]; decide +kernel, by decide +kernel⟩) (.cons (by simp only [RepD]; exact ⟨trivial, by rw [sizeLine_eq]; decide +kernel, by decide +kernel⟩) .nil)))))) (.cons th0_4 (show RelV (.ref gat0_32) _ from rfl) (fun H => (rep_glob_tup glt0_39 (.cons (show RelV (.str "name") _ from ⟨_, rfl⟩) (.cons (show RelV (.str "name or chest") _ from ⟨_, rfl⟩) (.cons (show RelV (.str "measures") _ from ⟨_, rfl⟩) .nil))) (by simp) (.cons (by simp only [RepD]; exact ⟨trivial, by rw [sizeLine_eq]; decide +kernel, by decide +kernel⟩) (.cons (by simp only [RepD]; exact ⟨trivial, by rw [sizeLine_eq]; decide +kernel, by decide +kernel⟩) (.cons (by simp only [RepD]; exact ⟨trivial, by rw [sizeLine_eq]; decide +kernel, by decide +kernel⟩) .nil))))) (.cons th0_5 (show RelV (.ref gat0_40) _ from rfl) (fun H => (rep_glob_tup glt0_45 (.cons (show RelV (.str "name") _ from ⟨_, rfl⟩) .nil) (by simp) (.cons (by simp only [RepD]; exact ⟨trivial, by rw [sizeLine_eq]; decide +kernel, by decide +kernel⟩) .nil))) .nil))))))
    d := fun i d hd => by
      match i, hd with
      | 0, hd => cases hd; exact ⟨_, _, rfl, rfl, ⟨⟨_, _, _, _, _, _, _, _, _, _, rfl, l0, c0⟩⟩, dcl0⟩
      | 1, hd => cases hd; exact ⟨_, _, rfl, rfl, ⟨⟨_, _, _, _, _, _, _, _, _, _, rfl, l1, c1⟩⟩, dcl1⟩
      | 2, hd => cases hd; exact ⟨_, _, rfl, rfl, ⟨⟨_, _, _, _, _, _, _, _, _, _, rfl, l2, c2⟩⟩, dcl2⟩
      | 3, hd => cases hd; exact ⟨_, _, rfl, rfl, ⟨⟨_, _, _, _, _, _, _, _, _, _, rfl, l3, c3⟩⟩, dcl3⟩
      | 4, hd => cases hd; exact ⟨_, _, rfl, rfl, ⟨⟨_, _, _, _, _, _, _, _, _, _, rfl, l4, c4⟩⟩, dcl4⟩
      | 5, hd => cases hd; exact ⟨_, _, rfl, rfl, ⟨⟨_, _, _, _, _, _, _, _, _, _, rfl, l5, c5⟩⟩, dcl5⟩
      | 6, hd => cases hd; exact ⟨_, _, rfl, rfl, ⟨⟨_, _, _, _, _, _, _, _, _, _, rfl, l6, c6⟩⟩, dcl6⟩
      | 7, hd => cases hd; exact ⟨_, _, rfl, rfl, ⟨⟨_, _, _, _, _, _, _, _, _, _, rfl, l7, c7⟩⟩, dcl7⟩
      | 8, hd => cases hd; exact ⟨_, _, rfl, rfl, ⟨⟨_, _, _, _, _, _, _, _, _, _, rfl, l8, c8⟩⟩, dcl8⟩
      | 9, hd => cases hd; exact ⟨_, _, rfl, rfl, ⟨⟨_, _, _, _, _, _, _, _, _, _, rfl, l9, c9⟩⟩, dcl9⟩
      | 10, hd => cases hd; exact ⟨_, _, rfl, rfl, ⟨⟨_, _, _, _, _, _, _, _, _, _, rfl, l10, c10⟩⟩, dcl10⟩
      | 11, hd => cases hd; exact ⟨_, _, rfl, rfl, ⟨⟨_, _, _, _, _, _, _, _, _, _, rfl, l11, c11⟩⟩, dcl11⟩
      | 12, hd => cases hd; exact ⟨_, _, rfl, rfl, ⟨⟨_, _, _, _, _, _, _, _, _, _, rfl, l12, c12⟩⟩, dcl12⟩
      | 13, hd => cases hd; exact ⟨_, _, rfl, rfl, ⟨⟨_, _, _, _, _, _, _, _, _, _, rfl, l13, c13⟩⟩, dcl13⟩
      | 14, hd => cases hd; exact ⟨_, _, rfl, rfl, ⟨⟨_, _, _, _, _, _, _, _, _, _, rfl, l14, c14⟩⟩, dcl14⟩
      | i + 15, hd => simp [dis] at hd
    pats := fun q hq => by
      simp only [pg, List.mem_cons, List.not_mem_nil, or_false] at hq
      rcases hq with rfl | rfl | rfl | rfl | rfl | rfl | rfl | rfl | rfl | rfl | rfl | rfl | rfl | rfl | rfl
      · exact ⟨1, di1, _, _, rfl, rfl, rfl, rfl, PySem.W.mg_of X G a1, k1, rfl, fun s us ws hKs hu hw => match us, hu, ws, hw with | [u0], _, [], _ => ⟨[u0], .of_eq rfl, (.pos rfl .nil)⟩⟩
      · exact ⟨0, di0, _, _, rfl, rfl, rfl, rfl, PySem.W.mg_of X G a0, k0, rfl, fun s us ws hKs hu hw => match us, hu, ws, hw with | [u0, u1, u2], _, [], _ => ⟨[u0, u1, u2], .of_eq rfl, (.pos rfl (.pos rfl (.pos rfl .nil)))⟩⟩
      · exact ⟨2, di2, _, _, rfl, rfl, rfl, rfl, PySem.W.mg_of X G a2, k2, rfl, fun s us ws hKs hu hw => match us, hu, ws, hw with | [u0, u1], _, [], _ => ⟨[u0, u1], .of_eq rfl, (.pos rfl (.pos rfl .nil))⟩⟩
      · exact ⟨3, di3, _, _, rfl, rfl, rfl, rfl, PySem.W.mg_of X G a3, k3, rfl, fun s us ws hKs hu hw => match us, hu, ws, hw with | [u0], _, [], _ => ⟨[u0], .of_eq rfl, (.pos rfl .nil)⟩⟩
      · exact ⟨8, di8, _, _, rfl, rfl, rfl, rfl, PySem.W.mg_of X G a8, k8, rfl, fun s us ws hKs hu hw => match us, hu, ws, hw with | [u0], _, [], _ => ⟨[u0], .of_eq rfl, (.pos rfl .nil)⟩⟩
      · exact ⟨7, di7, _, _, rfl, rfl, rfl, rfl, PySem.W.mg_of X G a7, k7, rfl, fun s us ws hKs hu hw => match us, hu, ws, hw with | [u0, u1], _, [], _ => ⟨[u0, u1], .of_eq rfl, (.pos rfl (.pos rfl .nil))⟩⟩
      · exact ⟨10, di10, _, _, rfl, rfl, rfl, rfl, PySem.W.mg_of X G a10, k10, rfl, fun s us ws hKs hu hw => match us, hu, ws, hw with | [u0], _, [], _ => ⟨[u0], .of_eq rfl, (.pos rfl .nil)⟩⟩
      · exact ⟨11, di11, _, _, rfl, rfl, rfl, rfl, PySem.W.mg_of X G a11, k11, rfl, fun s us ws hKs hu hw => match us, hu, ws, hw with | [u0, u1], _, [], _ => ⟨[u0, u1], .of_eq rfl, (.pos rfl (.pos rfl .nil))⟩⟩
      · exact ⟨4, di4, _, _, rfl, rfl, rfl, rfl, PySem.W.mg_of X G a4, k4, rfl, fun s us ws hKs hu hw => match us, hu, ws, hw with | [u0], _, [], _ => ⟨[u0], .of_eq rfl, (.pos rfl .nil)⟩⟩
      · exact ⟨4, di4, _, _, rfl, rfl, rfl, rfl, PySem.W.mg_of X G a4, k4, rfl, fun s us ws hKs hu hw => match us, hu, ws, hw with | [], _, [w0], _ => ⟨[w0], .of_eq rfl, (.pos rfl .nil)⟩⟩
      · exact ⟨9, di9, _, _, rfl, rfl, rfl, rfl, PySem.W.mg_of X G a9, k9, rfl, fun s us ws hKs hu hw => match us, hu, ws, hw with | [u0], _, [], _ => ⟨[u0], .of_eq rfl, (.pos rfl .nil)⟩⟩
      · exact ⟨6, di6, _, _, rfl, rfl, rfl, rfl, PySem.W.mg_of X G a6, k6, rfl, fun s us ws hKs hu hw => match us, hu, ws, hw with | [u0], _, [], _ => ⟨[u0], .of_eq rfl, (.pos rfl .nil)⟩⟩
      · exact ⟨5, di5, _, _, rfl, rfl, rfl, rfl, PySem.W.mg_of X G a5, k5, rfl, fun s us ws hKs hu hw => match us, hu, ws, hw with | [u0, u1], _, [], _ => ⟨[u0, u1], .of_eq rfl, (.pos rfl (.pos rfl .nil))⟩⟩
      · exact ⟨13, di13, _, _, rfl, rfl, rfl, rfl, PySem.W.mg_of X G a13, k13, rfl, fun s us ws hKs hu hw => match us, hu, ws, hw with | [u0], _, [], _ => ⟨[u0], .of_eq rfl, (.pos rfl .nil)⟩⟩
      · exact ⟨12, di12, _, _, rfl, rfl, rfl, rfl, PySem.W.mg_of X G a12, k12, rfl, fun s us ws hKs hu hw => match us, hu, ws, hw with | [u0], _, [], _ => ⟨[u0], .of_eq rfl, (.pos rfl .nil)⟩⟩
  }
  exact ⟨(PySem.W.fnOf "law" "law" (defArgs di14.st) (defBody di14.st) (defScope di14.st) .none kV14 dc14 pm14 an14 cd14 ct14), fun s v => .of_eq rfl, fun base _ _ => (prog_ok O 6 14 di14 _ _ rfl rfl rfl).imp (law_sp (by decide) law_true)⟩
end TW
open PySem PySem.W PyProof.Rows
set_option maxHeartbeats 0 in
theorem PySem.Challenge.cw_thankways_k05_books_of_any_kind_holds : PySem.Challenge.rw_thankways_k05_books_of_any_kind.Holds := by
  w_on; o_law; k_head; (case hw => w_witness2)
  k_fill
  refine L2.walk_of (l := PySem.Challenge.rw_thankways_k05_books_of_any_kind) (n := 63) (k := 6) (x := "_law_script") (CX := fun w => L2.CX PySem.Challenge.pw_thankways_k05_books_of_any_kind w) (sp := fun w => TW.spLaw _ 63) rfl (by decide) rfl ⟨rfl, by decide, by decide⟩ (fun w h Y => PySem.W.kIn_of Y) ?F (fun _ _ a ns hl _ hS => ⟨a, ns, rfl, hS, hl, fun _ => rfl⟩) (fun w H s e s' h => TW.cx_false h)
  case F =>
    intro w mg fa h KX G hmg
    refine' TW.all_mk KX G hmg ?a0 ?l0 ?c0 ?k0 ?a1 ?l1 ?c1 ?k1 ?a2 ?l2 ?c2 ?k2 ?a3 ?l3 ?c3 ?k3 ?a4 ?l4 ?c4 ?k4 ?a5 ?l5 ?c5 ?k5 ?a6 ?l6 ?c6 ?k6 ?a7 ?l7 ?c7 ?k7 ?a8 ?l8 ?c8 ?k8 ?a9 ?l9 ?c9 ?k9 ?a10 ?l10 ?c10 ?k10 ?a11 ?l11 ?c11 ?k11 ?a12 ?l12 ?c12 ?k12 ?a13 ?l13 ?c13 ?k13 ?a14 ?l14 ?c14 ?k14 ?z0 ?z1 ?z2 ?z3 ?z4 ?z5 ?z6 ?z7 ?z8 ?z9 ?z10 ?z11 ?z12 ?z13 ?glg0_8 ?gc0 ?gc1 ?gc2 ?gc3 ?gc4 ?gc5 ?glt0_6 ?glt0_14 ?glt0_22 ?glt0_31 ?glt0_39 ?glt0_45 ?tl0 ?tg0 ?ts0 ?th0_0 ?th0_1 ?th0_2 ?th0_3 ?th0_4 ?th0_5
    (case a0 => k_is); (case l0 => k_is); (case c0 => k_is); (case k0 => k_is); (case a1 => k_is); (case l1 => k_is); (case c1 => k_is); (case k1 => k_is); (case a2 => k_is); (case l2 => k_is); (case c2 => k_is); (case k2 => k_is); (case a3 => k_is); (case l3 => k_is); (case c3 => k_is); (case k3 => k_is); (case a4 => k_is); (case l4 => k_is); (case c4 => k_is); (case k4 => k_is); (case a5 => k_is); (case l5 => k_is); (case c5 => k_is); (case k5 => k_is); (case a6 => k_is); (case l6 => k_is); (case c6 => k_is); (case k6 => k_is); (case a7 => k_is); (case l7 => k_is); (case c7 => k_is); (case k7 => k_is); (case a8 => k_is); (case l8 => k_is); (case c8 => k_is); (case k8 => k_is); (case a9 => k_is); (case l9 => k_is); (case c9 => k_is); (case k9 => k_is); (case a10 => k_is); (case l10 => k_is); (case c10 => k_is); (case k10 => k_is); (case a11 => k_is); (case l11 => k_is); (case c11 => k_is); (case k11 => k_is); (case a12 => k_is); (case l12 => k_is); (case c12 => k_is); (case k12 => k_is); (case a13 => k_is); (case l13 => k_is); (case c13 => k_is); (case k13 => k_is); (case a14 => k_is); (case l14 => k_is); (case c14 => k_is); (case k14 => k_is); (case z0 => k_is); (case z1 => k_is); (case z2 => k_is); (case z3 => k_is); (case z4 => k_is); (case z5 => k_is); (case z6 => k_is); (case z7 => k_is); (case z8 => k_is); (case z9 => k_is); (case z10 => k_is); (case z11 => k_is); (case z12 => k_is); (case z13 => k_is); (case gc0 => k_is); (case glg0_8 => k_is); (case gc1 => k_is); (case gc2 => k_is); (case gc3 => k_is); (case gc4 => k_is); (case gc5 => k_is); (case tg0 => k_is); (case tl0 => k_is); (case glt0_45 => k_is); (case glt0_39 => k_is); (case glt0_31 => k_is); (case glt0_22 => k_is); (case glt0_14 => k_is); (case glt0_6 => k_is); (case ts0 => first | rfl | decide | k_is); (case th0_0 => first | rfl | decide | k_is); (case th0_1 => first | rfl | decide | k_is); (case th0_2 => first | rfl | decide | k_is); (case th0_3 => first | rfl | decide | k_is); (case th0_4 => first | rfl | decide | k_is); (case th0_5 => first | rfl | decide | k_is)
