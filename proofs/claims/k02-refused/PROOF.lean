import PyProof.Rows.All
import Wide.All
import OpenK.AllK
import Wide.FinOn
import HandS.ForMost
import HandS.ForExc
import HandS.Flow
import HandS.IsInst
import HandS.Wide
import HandS.WideBits
import PyProof.ReprLen
import PyProof.ReprRoads
import KE.SortData
import KE.DataCmp
import HandS.TupMul
import HandS.TupAny
import HandS.Style
import PyProof.Rows.IntBool
import PyProof.TupleOfStr
import HandS.RaiseMore
import PyProof.TupleOfSeq
import PyProof.Transfer
import HandS.SetFor
import KE.DataFind
import HandS.Conv
import HandS.DictTup
import KE.KDictSum
import PyProof.DictMoreH
import HandS.HotCalls
import KE.GoesEnum
import KE.GoesMore
import HandS.Dict
import KE.GoesZip
import KE.GoesEnumKw
import HandS.Zip
import KE.KUnpackStar
import HandS.More
import HandS.SetBool
import HandS.DictComp
import KE.GoesSet
import HandS.Strs
import PyProof.ListNew
import HandS.ExcInit
import HandS.ExcOwn
import HandS.ExcIs
import HandS.ExcField
import HandS.ExcValue
import KE.KExcInit
import KE.KTryMore
import HandS.HeadWalk
import KE.KExcIs
import PySem.Challenge.RW_thankways_k02_numbers_refused
set_option Elab.async false
set_option linter.all false
set_option maxRecDepth 100000
namespace TW
open PySem PySem.Spec PyProof.Rows L2

/-! ### data without addresses -/
inductive D where
  | non | bl (b : Bool) | int (i : Int) | str (s : Str) | tup (xs : List D) | lst (xs : List D) | dct (ks : List Key) (vs : List D)
/-- a refusal: its class by name, its fields -/
structure Xn where
  cls : Str
  fs : List (Str × D)
/-- a value: data, or a changeable object by its number, or a refusal that was caught -/
inductive Vv where
  | d (x : D) | ref (n : Nat) | exn (x : Xn)
inductive MO where
  | lst (xs : List D) | dT (lk : Bool) (kvs : List ((Str × Str) × D)) | dK (lk : Bool) (kvs : List (Str × D))
/-- it may be changed -/
def MO.free : MO → Bool
  | .lst _ => true
  | .dT lk _ => !lk
  | .dK lk _ => !lk
abbrev Sto := List MO
abbrev En := List (Option Vv)
inductive R (α : Type) where
  | ok (a : α) (st : Sto) | exc (x : Xn) (st : Sto) | stuck
def R.bind {α β : Type} : R α → (α → Sto → R β) → R β
  | .ok a st, f => f a st
  | .exc x st, _ => .exc x st
  | .stuck, _ => .stuck

/-- two texts: such a tuple may be a dict's key -/
def pairT : List D → Bool
  | [.str _, .str _] => true
  | _ => false
mutual
def RepD (K : PySem.W.Frag) (H : Hp) : D → V → Prop
  | .non, v => v = .non
  | .bl b, v => v = .bl b
  | .int i, v => v = .int i
  | .str s, v => v = .str s ∧ s.length ≤ sizeLine ∧ PySem.PyData.strOk s = true
  | .tup xs, v => ∃ a vs, v = .ref a ∧ SqT K H a vs ∧ xs.length ≤ sizeLine ∧ RepDs K H xs vs ∧ (pairT xs = true → H a = some (.tup vs))
  | .lst xs, v => ∃ a vs, v = .ref a ∧ SqL K H a vs ∧ xs.length ≤ sizeLine ∧ RepDs K H xs vs
  | .dct ks xs, v => ∃ a vs, v = .ref a ∧ H a = some (.dK (ks.zip vs)) ∧ ks.length = vs.length ∧ RepDs K H xs vs
def RepDs (K : PySem.W.Frag) (H : Hp) : List D → List V → Prop
  | [], vs => vs = []
  | x :: xs, vs => ∃ v r, vs = v :: r ∧ RepD K H x v ∧ RepDs K H xs r
end
variable {K : PySem.W.Frag}
theorem same_rd {H H' : Hp} {a : Addr} {u : HO} (e : Same H H') (h : Rd H a u) : Rd H' a u := by
  rcases h with h | ⟨o, h⟩
  · exact .inl (e _ _ h)
  · exact .inr ⟨o, e _ _ h⟩
theorem same_tup {H H' : Hp} {a : Addr} {xs : List V} (e : Same H H') (h : SqT K H a xs) : SqT K H' a xs := by
  rcases h with h | h
  · exact .inl (same_rd e h)
  · exact .inr h
mutual
theorem RepD.mono {H H' : Hp} (e : Same H H') : ∀ (d : D) (v : V), RepD K H d v → RepD K H' d v
  | .non, _, h => by simpa only [RepD] using h
  | .bl _, _, h => by simpa only [RepD] using h
  | .int _, _, h => by simpa only [RepD] using h
  | .str _, _, h => by simpa only [RepD] using h
  | .tup xs, _, h => by
    simp only [RepD] at h ⊢
    obtain ⟨a, vs, r, q, l, z, y⟩ := h
    exact ⟨a, vs, r, same_tup e q, l, RepDs.mono e xs vs z, fun w => e _ _ (y w)⟩
  | .lst xs, _, h => by
    simp only [RepD] at h ⊢
    obtain ⟨a, vs, r, q, l, z⟩ := h
    exact ⟨a, vs, r, e.seq q, l, RepDs.mono e xs vs z⟩
  | .dct ks xs, _, h => by
    simp only [RepD] at h ⊢
    obtain ⟨a, vs, r, q, l, z⟩ := h
    exact ⟨a, vs, r, e _ _ q, l, RepDs.mono e xs vs z⟩
theorem RepDs.mono {H H' : Hp} (e : Same H H') : ∀ (ds : List D) (vs : List V), RepDs K H ds vs → RepDs K H' ds vs
  | [], _, h => by simpa only [RepDs] using h
  | x :: xs, _, h => by
    simp only [RepDs] at h ⊢
    obtain ⟨v, r, rfl, p, q⟩ := h
    exact ⟨v, r, rfl, RepD.mono e x v p, RepDs.mono e xs r q⟩
end
theorem RepDs.length {H : Hp} : ∀ {ds : List D} {vs : List V}, RepDs K H ds vs → ds.length = vs.length
  | [], _, h => by simp only [RepDs] at h; subst h; rfl
  | x :: xs, _, h => by
    simp only [RepDs] at h
    obtain ⟨v, r, rfl, p, q⟩ := h
    simp [RepDs.length q]
theorem RepDs.nil {H : Hp} : RepDs K H [] [] := by simp only [RepDs]
theorem RepDs.cons {H : Hp} {x : D} {xs : List D} {v : V} {vs : List V} (h : RepD K H x v) (t : RepDs K H xs vs) : RepDs K H (x :: xs) (v :: vs) := by
  simp only [RepDs]
  exact ⟨v, vs, rfl, h, t⟩
theorem RepDs.uncons {H : Hp} {x : D} {xs : List D} {vs : List V} (h : RepDs K H (x :: xs) vs) : ∃ v r, vs = v :: r ∧ RepD K H x v ∧ RepDs K H xs r := by
  simpa only [RepDs] using h
theorem RepDs.get {H : Hp} : ∀ {ds : List D} {vs : List V} {i : Nat} {d : D}, RepDs K H ds vs → ds[i]? = some d → ∃ v, vs[i]? = some v ∧ RepD K H d v
  | [], _, _, _, _, e => by simp at e
  | x :: xs, _, 0, _, h, e => by
    obtain ⟨v, r, rfl, p, q⟩ := h.uncons
    simp at e; subst e
    exact ⟨v, rfl, p⟩
  | x :: xs, _, i + 1, _, h, e => by
    obtain ⟨v, r, rfl, p, q⟩ := h.uncons
    have := RepDs.get (i := i) q (by simpa using e)
    simpa using this
theorem RepDs.append {H : Hp} : ∀ {ds es : List D} {vs us : List V}, RepDs K H ds vs → RepDs K H es us → RepDs K H (ds ++ es) (vs ++ us)
  | [], _, _, _, h, g => by simp only [RepDs] at h; subst h; exact g
  | x :: xs, _, _, _, h, g => by
    obtain ⟨v, r, rfl, p, q⟩ := h.uncons
    exact .cons p (RepDs.append q g)
theorem RepDs.drop {H : Hp} : ∀ {ds : List D} {vs : List V} (n : Nat), RepDs K H ds vs → RepDs K H (ds.drop n) (vs.drop n)
  | _, _, 0, h => by simpa using h
  | [], _, n + 1, h => by simp only [RepDs] at h; subst h; simp; exact RepDs.nil
  | x :: xs, _, n + 1, h => by
    obtain ⟨v, r, rfl, p, q⟩ := h.uncons
    simpa using RepDs.drop n q
theorem RepDs.take {H : Hp} : ∀ {ds : List D} {vs : List V} (n : Nat), RepDs K H ds vs → RepDs K H (ds.take n) (vs.take n)
  | _, _, 0, h => by simp; exact RepDs.nil
  | [], _, n + 1, h => by simp only [RepDs] at h; subst h; simp; exact RepDs.nil
  | x :: xs, _, n + 1, h => by
    obtain ⟨v, r, rfl, p, q⟩ := h.uncons
    simpa using RepDs.cons p (RepDs.take n q)
theorem RepDs.set {H : Hp} {x : D} {v : V} (p : RepD K H x v) : ∀ {ds : List D} {vs : List V} (n : Nat), RepDs K H ds vs → RepDs K H (ds.set n x) (vs.set n v)
  | [], _, _, h => by simp only [RepDs] at h; subst h; simp; exact RepDs.nil
  | y :: ys, _, 0, h => by
    obtain ⟨u, r, rfl, p', q⟩ := h.uncons
    exact .cons p q
  | y :: ys, _, n + 1, h => by
    obtain ⟨u, r, rfl, p', q⟩ := h.uncons
    exact .cons p' (RepDs.set p n q)

/-! ### the heap without the changeable objects -/
/-- where the changeable objects lie; what is hidden -/
structure Mp where
  ad : List Addr
  hid : List Addr
def hm (m : Mp) (H : Hp) : Hp := fun a => if a ∈ m.ad ∨ a ∈ m.hid then none else H a
theorem hm_some {m : Mp} {H : Hp} {a : Addr} {o : HO} : hm m H a = some o ↔ (a ∉ m.ad ∧ a ∉ m.hid) ∧ H a = some o := by
  unfold hm
  split
  · rename_i h
    refine ⟨fun z => (nomatch z), fun z => ?_⟩
    rcases h with h | h
    · exact absurd h z.1.1
    · exact absurd h z.1.2
  · rename_i h
    exact ⟨fun z => ⟨⟨fun w => h (.inl w), fun w => h (.inr w)⟩, z⟩, fun z => z.2⟩
theorem hm_same {m : Mp} {H : Hp} : Same (hm m H) H := fun a o h => (hm_some.mp h).2

/-- a pair of texts, as a key -/
def kP (p : Str × Str) : List Key := [.inr p.1, .inr p.2]
def kS (p : Str) : Key := .inr p
def okS (s : Str) : Prop := s.length ≤ sizeLine ∧ PySem.PyData.strOk s = true
/-- a dict's rows -/
def RepK (K : PySem.W.Frag) (H : Hp) {κ κ' : Type} (f : κ → κ') (ok : κ → Prop) (kvs : List (κ × D)) (us : List (κ' × V)) : Prop := Paired (fun p u => u.1 = f p.1 ∧ ok p.1 ∧ RepD K H p.2 u.2) kvs us
theorem RepK.mono {H H' : Hp} (e : Same H H') {κ κ' : Type} {f : κ → κ'} {ok : κ → Prop} {kvs : List (κ × D)} {us : List (κ' × V)} (h : RepK K H f ok kvs us) : RepK K H' f ok kvs us :=
  Paired.mapP h fun _ _ z => ⟨z.1, z.2.1, RepD.mono e _ _ z.2.2⟩
/-- laid, or locked -/
def ofz (lk : Bool) (u o : HO) : Prop := if lk = true then ∃ ob, o = .frz ob u else o = u
def okP (p : Str × Str) : Prop := okS p.1 ∧ okS p.2
def RepO (K : PySem.W.Frag) (H : Hp) : MO → HO → Prop
  | .lst xs, o => ∃ vs, o = .lst vs ∧ RepDs K H xs vs ∧ xs.length ≤ sizeLine
  | .dT lk kvs, o => ∃ us, ofz lk (.dT us) o ∧ RepK K H kP okP kvs us
  | .dK lk kvs, o => ∃ us, ofz lk (.dK us) o ∧ RepK K H kS okS kvs us
theorem RepO.mono {H H' : Hp} (e : Same H H') : ∀ {o : MO} {u : HO}, RepO K H o u → RepO K H' o u
  | .lst xs, _, ⟨vs, r, q, l⟩ => ⟨vs, r, q.mono e, l⟩
  | .dT lk xs, _, ⟨vs, r, q⟩ => ⟨vs, r, q.mono e⟩
  | .dK lk xs, _, ⟨vs, r, q⟩ => ⟨vs, r, q.mono e⟩
/-- it isn't a tuple -/
def NoT (u : HO) : Prop := ∀ vs, u ≠ .tup vs
theorem RepO.noT {H : Hp} : ∀ {o : MO} {u : HO}, RepO K H o u → NoT u
  | .lst xs, _, ⟨vs, r, q, l⟩ => by subst r; exact fun _ z => nomatch z
  | .dT lk xs, u, ⟨vs, r, q⟩ => by
    unfold ofz at r
    split at r
    · obtain ⟨ob, rfl⟩ := r; exact fun _ z => nomatch z
    · subst r; exact fun _ z => nomatch z
  | .dK lk xs, u, ⟨vs, r, q⟩ => by
    unfold ofz at r
    split at r
    · obtain ⟨ob, rfl⟩ := r; exact fun _ z => nomatch z
    · subst r; exact fun _ z => nomatch z
theorem RepO.noF {H : Hp} : ∀ {o : MO} {u : HO}, RepO K H o u → o.free = true → ∀ ob w, u ≠ .frz ob w
  | .lst xs, _, ⟨vs, r, q, l⟩, _ => by subst r; exact fun _ _ z => nomatch z
  | .dT lk xs, u, ⟨vs, r, q⟩, hf => by
    have : lk = false := by simpa [MO.free] using hf
    subst this
    have : u = .dT vs := r
    subst this; exact fun _ _ z => nomatch z
  | .dK lk xs, u, ⟨vs, r, q⟩, hf => by
    have : lk = false := by simpa [MO.free] using hf
    subst this
    have : u = .dK vs := r
    subst this; exact fun _ _ z => nomatch z
theorem ndix {α : Type} {N : List α} (hN : N.Nodup) {i j : Nat} {x : α} (a : N[i]? = some x) (b : N[j]? = some x) : i = j := by
  obtain ⟨h1, e1⟩ := List.getElem?_eq_some_iff.mp a
  obtain ⟨h2, e2⟩ := List.getElem?_eq_some_iff.mp b
  exact (List.getElem_inj hN).mp (e1.trans e2.symm)
structure Rel (K : PySem.W.Frag) (m : Mp) (st : Sto) (H : Hp) : Prop where
  len : m.ad.length = st.length
  nd : m.ad.Nodup
  get : ∀ (i : Nat) o a, st[i]? = some o → m.ad[i]? = some a → ∃ u, H a = some u ∧ RepO K (hm m H) o u
  hd : ∀ a ∈ m.hid, (∃ u, H a = some u ∧ NoT u) ∧ a ∉ m.ad
structure Ext (m : Mp) (H : Hp) (m' : Mp) (H' : Hp) : Prop where
  pre : ∃ t, m'.ad = m.ad ++ t
  hid : m'.hid = m.hid
  keep : ∀ a ∈ m.hid, H' a = H a
  same : Same (hm m H) (hm m' H')
  frz : ∀ a ob u, H a = some (.frz ob u) → H' a = some (.frz ob u)
theorem Ext.refl {m : Mp} {H : Hp} : Ext m H m H := ⟨⟨[], by simp⟩, rfl, fun _ _ => rfl, .refl _, fun _ _ _ h => h⟩
theorem Ext.trans {m m1 m2 : Mp} {H H1 H2 : Hp} (a : Ext m H m1 H1) (b : Ext m1 H1 m2 H2) : Ext m H m2 H2 := by
  obtain ⟨t, e1⟩ := a.pre
  obtain ⟨u, e2⟩ := b.pre
  exact ⟨⟨t ++ u, by rw [e2, e1]; simp⟩, b.hid.trans a.hid, fun c hc => (b.keep c (by rw [a.hid]; exact hc)).trans (a.keep c hc), a.same.trans b.same, fun c o u h => b.frz c o u (a.frz c o u h)⟩
theorem Rel.there {m : Mp} {st : Sto} {H : Hp} (r : Rel K m st H) {a : Addr} (h : a ∈ m.ad) : ∃ u, H a = some u := by
  obtain ⟨i, hi, e⟩ := List.getElem_of_mem h
  have e1 : m.ad[i]? = some a := by rw [List.getElem?_eq_getElem hi, e]
  have e2 : st[i]? = some (st[i]'(by rw [← r.len]; exact hi)) := List.getElem?_eq_getElem _
  obtain ⟨u, h1, _⟩ := r.get i _ a e2 e1
  exact ⟨u, h1⟩
theorem Rel.fresh_ne {m : Mp} {st : Sto} {H : Hp} (r : Rel K m st H) {p : Addr} (n : H p = none) : p ∉ m.ad ∧ p ∉ m.hid := by
  refine ⟨fun h => ?_, fun h => ?_⟩
  · obtain ⟨u, e⟩ := r.there h
    rw [n] at e; cases e
  · obtain ⟨⟨u, e, _⟩, _⟩ := r.hd p h
    rw [n] at e; cases e
theorem hm_upd {m : Mp} {H : Hp} {p : Addr} {o : HO} (n : H p = none) : Same (hm m H) (hm m (upd H p o)) := fun a u h => by
  obtain ⟨h1, h2⟩ := hm_some.mp h
  refine hm_some.mpr ⟨h1, ?_⟩
  rw [upd_ne (ne_of_none h2 n)]
  exact h2
theorem Rel.ext_fresh {m : Mp} {st : Sto} {H : Hp} (r : Rel K m st H) {p : Addr} {o : HO} (n : H p = none) : Ext m H m (upd H p o) :=
  ⟨⟨[], by simp⟩, rfl, fun a ha => upd_ne fun e => (r.fresh_ne n).2 (e ▸ ha), hm_upd n, fun a ob u h => by rw [upd_ne (ne_of_none h n)]; exact h⟩
theorem Rel.fresh {m : Mp} {st : Sto} {H : Hp} (r : Rel K m st H) {p : Addr} {o : HO} (n : H p = none) : Rel K m st (upd H p o) :=
  ⟨r.len, r.nd, fun i ob a h1 h2 => by
    obtain ⟨u, e, q⟩ := r.get i ob a h1 h2
    exact ⟨u, by rw [upd_ne (ne_of_none e n)]; exact e, q.mono (hm_upd n)⟩, fun a ha => by
    obtain ⟨⟨u, e, nt⟩, h⟩ := r.hd a ha
    exact ⟨⟨u, by rw [upd_ne (ne_of_none e n)]; exact e, nt⟩, h⟩⟩
/-- a new changeable object -/
theorem Rel.new {m : Mp} {st : Sto} {H : Hp} (r : Rel K m st H) {p : Addr} {o : HO} {ob : MO} (n : H p = none) (q : RepO K (hm m H) ob o) : Rel K ⟨m.ad ++ [p], m.hid⟩ (st ++ [ob]) (upd H p o) ∧ Ext m H ⟨m.ad ++ [p], m.hid⟩ (upd H p o) := by
  obtain ⟨nm, nh⟩ := r.fresh_ne n
  have sm : Same (hm m H) (hm ⟨m.ad ++ [p], m.hid⟩ (upd H p o)) := fun a u h => by
    obtain ⟨h1, h2⟩ := hm_some.mp h
    have ne := ne_of_none h2 n
    refine hm_some.mpr ⟨⟨by simp [h1.1, ne], h1.2⟩, ?_⟩
    rw [upd_ne ne]
    exact h2
  refine ⟨⟨by simp [r.len], ?_, fun i o' a h1 h2 => ?_, fun a ha => ?_⟩, ⟨[p], rfl⟩, rfl, fun a ha => upd_ne fun e => nh (e ▸ ha), sm, fun a ob u h => by rw [upd_ne (ne_of_none h n)]; exact h⟩
  · rw [List.nodup_append]
    refine ⟨r.nd, by simp, ?_⟩
    intro a ha b hb e
    have : b = p := by simpa using hb
    subst this; subst e
    exact nm ha
  · by_cases hi : i < m.ad.length
    · rw [List.getElem?_append_left (by rw [← r.len]; exact hi)] at h1
      rw [List.getElem?_append_left hi] at h2
      obtain ⟨u, e, z⟩ := r.get i o' a h1 h2
      exact ⟨u, by rw [upd_ne (ne_of_none e n)]; exact e, z.mono sm⟩
    · rw [List.getElem?_append_right (by rw [← r.len]; omega)] at h1
      rw [List.getElem?_append_right (by omega)] at h2
      have i0 : i - m.ad.length = 0 := by
        cases hk : i - m.ad.length with
        | zero => rfl
        | succ k => rw [hk] at h2; simp at h2
      have i1 : i - st.length = 0 := by rw [← r.len]; exact i0
      rw [i0] at h2; rw [i1] at h1
      simp at h1 h2
      subst h1; subst h2
      exact ⟨o, upd_same, q.mono sm⟩
  · obtain ⟨⟨u, e, nt⟩, h⟩ := r.hd a ha
    have ne : a ≠ p := fun z => nh (z ▸ ha)
    exact ⟨⟨u, by rw [upd_ne ne]; exact e, nt⟩, by simp [h, ne]⟩
/-- a changeable object is changed -/
theorem Rel.put {m : Mp} {st : Sto} {H : Hp} (r : Rel K m st H) {i : Nat} {a : Addr} {o : HO} {ob ob0 : MO} (hi : m.ad[i]? = some a) (h0 : st[i]? = some ob0) (hf : ob0.free = true) (q : RepO K (hm m H) ob o) : Rel K m (st.set i ob) (upd H a o) ∧ Ext m H m (upd H a o) := by
  have ha : a ∈ m.ad := List.mem_of_getElem? hi
  have nh : ∀ c ∈ m.hid, c ≠ a := fun c hc e => (r.hd c hc).2 (e ▸ ha)
  have sm : hm m (upd H a o) = hm m H := by
    funext b
    unfold hm
    split
    · rfl
    · rename_i hb
      exact upd_ne fun e => hb (.inl (e ▸ ha))
  refine ⟨⟨by simp [r.len], r.nd, fun j o' b h1 h2 => ?_, fun c hc => ?_⟩, ⟨[], by simp⟩, rfl, fun c hc => upd_ne (nh c hc), by rw [sm]; exact .refl _, fun c o1 u1 hc => ?_⟩
  · rw [sm]
    by_cases hj : j = i
    · subst hj
      rw [hi] at h2; cases h2
      have hl : j < st.length := by
        rw [← r.len]
        exact (List.getElem?_eq_some_iff.mp hi).1
      rw [List.getElem?_set_self hl] at h1
      cases h1
      exact ⟨o, upd_same, q⟩
    · rw [List.getElem?_set_ne (Ne.symm hj)] at h1
      obtain ⟨u, e, z⟩ := r.get j o' b h1 h2
      refine ⟨u, ?_, z⟩
      rw [upd_ne]
      · exact e
      · intro z; subst z
        exact hj (ndix r.nd h2 hi)
  · obtain ⟨⟨u, e, nt⟩, h⟩ := r.hd c hc
    exact ⟨⟨u, by rw [upd_ne (nh c hc)]; exact e, nt⟩, h⟩
  · rw [upd_ne]
    · exact hc
    · intro z; subst z
      obtain ⟨u, e, z⟩ := r.get i ob0 c h0 hi
      rw [hc] at e
      cases e
      exact z.noF hf _ _ rfl
/-- .. in any case -/
theorem Rel.set {m : Mp} {st : Sto} {H : Hp} (r : Rel K m st H) {i : Nat} {a : Addr} {o : HO} {ob : MO} (hi : m.ad[i]? = some a) (q : RepO K (hm m H) ob o) : Rel K m (st.set i ob) (upd H a o) ∧ hm m (upd H a o) = hm m H := by
  have ha : a ∈ m.ad := List.mem_of_getElem? hi
  have nh : ∀ c ∈ m.hid, c ≠ a := fun c hc e => (r.hd c hc).2 (e ▸ ha)
  have sm : hm m (upd H a o) = hm m H := by
    funext b
    unfold hm
    split
    · rfl
    · rename_i hb
      exact upd_ne fun e => hb (.inl (e ▸ ha))
  refine ⟨⟨by simp [r.len], r.nd, fun j o' b h1 h2 => ?_, fun c hc => ?_⟩, sm⟩
  · rw [sm]
    by_cases hj : j = i
    · subst hj
      rw [hi] at h2; cases h2
      have hl : j < st.length := by
        rw [← r.len]
        exact (List.getElem?_eq_some_iff.mp hi).1
      rw [List.getElem?_set_self hl] at h1
      cases h1
      exact ⟨o, upd_same, q⟩
    · rw [List.getElem?_set_ne (Ne.symm hj)] at h1
      obtain ⟨u, e, z⟩ := r.get j o' b h1 h2
      refine ⟨u, ?_, z⟩
      rw [upd_ne]
      · exact e
      · intro z; subst z
        exact hj (ndix r.nd h2 hi)
  · obtain ⟨⟨u, e, nt⟩, h⟩ := r.hd c hc
    exact ⟨⟨u, by rw [upd_ne (nh c hc)]; exact e, nt⟩, h⟩
/-- a dict, locked or not -/
def MO.lk (b : Bool) : MO → MO
  | .dT _ kvs => .dT b kvs
  | .dK _ kvs => .dK b kvs
  | o => o
def MO.isD : MO → Bool
  | .lst _ => false
  | _ => true
theorem RepO.lock {H : Hp} : ∀ {o : MO} {u : HO}, RepO K H o u → o.free = true → o.isD = true → (∀ ob, RepO K H (o.lk true) (.frz ob u)) ∧ RepO K H (o.lk false) u
  | .lst xs, _, _, _, h => nomatch h
  | .dT lk xs, u, ⟨vs, r, q⟩, hf, _ => by
    have : lk = false := by simpa [MO.free] using hf
    subst this
    have : u = .dT vs := r
    subst this
    exact ⟨fun ob => ⟨vs, ⟨ob, rfl⟩, q⟩, ⟨vs, rfl, q⟩⟩
  | .dK lk xs, u, ⟨vs, r, q⟩, hf, _ => by
    have : lk = false := by simpa [MO.free] using hf
    subst this
    have : u = .dK vs := r
    subst this
    exact ⟨fun ob => ⟨vs, ⟨ob, rfl⟩, q⟩, ⟨vs, rfl, q⟩⟩
theorem Rel.lock {m : Mp} {st : Sto} {H : Hp} (r : Rel K m st H) {i : Nat} {a : Addr} {ob : MO} {u : HO} (hi : m.ad[i]? = some a) (h0 : st[i]? = some ob) (hf : ob.free = true) (hd : ob.isD = true) (hu : H a = some u) (od : Obj) :
    Rel K m (st.set i (ob.lk true)) (upd H a (.frz od u)) ∧ Ext m H m (upd H a (.frz od u)) := by
  obtain ⟨u', e, z⟩ := r.get i ob a h0 hi
  rw [hu] at e; cases e
  exact r.put hi h0 hf ((z.lock hf hd).1 od)
theorem Rel.unlock {m m' : Mp} {st st' : Sto} {H H' : Hp} (r : Rel K m st H) {i : Nat} {a : Addr} {ob : MO} {u : HO} {od : Obj} (hi : m.ad[i]? = some a) (h0 : st[i]? = some ob) (hf : ob.free = true) (hd : ob.isD = true) (hu : H a = some u)
    (e : Ext m (upd H a (.frz od u)) m' H') (r' : Rel K m' st' H') : H' a = some (.frz od u) ∧ Rel K m' (st'.set i (ob.lk false)) (upd H' a u) ∧ Ext m H m' (upd H' a u) ∧ hm m' (upd H' a u) = hm m' H' := by
  obtain ⟨u', e1, z⟩ := r.get i ob a h0 hi
  rw [hu] at e1; cases e1
  have hz := e.frz a od u upd_same
  obtain ⟨l1, x1⟩ := r.lock hi h0 hf hd hu od
  have x := x1.trans e
  obtain ⟨t, ht⟩ := e.pre
  have hi' : m'.ad[i]? = some a := by rw [ht, List.getElem?_append_left (List.getElem?_eq_some_iff.mp hi).1]; exact hi
  obtain ⟨r2, sm⟩ := r'.set (ob := ob.lk false) (o := u) hi' ((z.lock hf hd).2.mono x.same)
  refine ⟨hz, r2, ⟨x.pre, x.hid, fun c hc => ?_, by rw [sm]; exact x.same, fun c o w hc => ?_⟩, sm⟩
  · have ne : c ≠ a := fun q => (r.hd c hc).2 (q ▸ List.mem_of_getElem? hi)
    rw [upd_ne ne]
    exact x.keep c hc
  · have ne : c ≠ a := by
      intro q; subst q
      rw [hu] at hc; cases hc
      exact z.noF hf _ _ rfl
    rw [upd_ne ne]
    exact x.frz c o w hc
/-- a tuple that is tracked lies open -/
theorem Rel.open {m : Mp} {st : Sto} {H : Hp} (r : Rel K m st H) {a : Addr} {vs : List V} (h : H a = some (.tup vs)) : hm m H a = some (.tup vs) := by
  refine hm_some.mpr ⟨⟨fun z => ?_, fun z => ?_⟩, h⟩
  · obtain ⟨i, hi, e⟩ := List.getElem_of_mem z
    have e1 : m.ad[i]? = some a := by rw [List.getElem?_eq_getElem hi, e]
    have e2 : st[i]? = some (st[i]'(by rw [← r.len]; exact hi)) := List.getElem?_eq_getElem _
    obtain ⟨u, h1, h2⟩ := r.get i _ a e2 e1
    rw [h] at h1; cases h1
    exact h2.noT _ rfl
  · obtain ⟨⟨u, h1, h2⟩, _⟩ := r.hd a z
    rw [h] at h1; cases h1
    exact h2 _ rfl
/-- the last ones are left to themselves -/
theorem Rel.drop {m m' : Mp} {st st' : Sto} {H H' : Hp} (r : Rel K m st H) (r' : Rel K m' st' H') (e : Ext m H m' H') : Rel K m (st'.take st.length) H' ∧ Ext m H m H' := by
  obtain ⟨t, ht⟩ := e.pre
  have sm : Same (hm m' H') (hm m H') := fun a u h => by
    obtain ⟨h1, h2⟩ := hm_some.mp h
    exact hm_some.mpr ⟨⟨fun z => h1.1 (by rw [ht]; exact List.mem_append_left _ z), by rw [← e.hid]; exact h1.2⟩, h2⟩
  refine ⟨⟨?_, r.nd, fun i o a h1 h2 => ?_, fun a ha => ?_⟩, ⟨[], by simp⟩, rfl, e.keep, e.same.trans sm, e.frz⟩
  · have h1 := r'.len
    have h2 := r.len
    rw [ht] at h1
    simp at *
    omega
  · have hi : i < m.ad.length := (List.getElem?_eq_some_iff.mp h2).1
    have hi2 : i < st.length := by rw [← r.len]; exact hi
    rw [List.getElem?_take_of_lt hi2] at h1
    obtain ⟨u, q, z⟩ := r'.get i o a h1 (by rw [ht, List.getElem?_append_left hi]; exact h2)
    exact ⟨u, q, z.mono sm⟩
  · obtain ⟨h1, h2⟩ := r'.hd a (by rw [e.hid]; exact ha)
    exact ⟨h1, fun z => h2 (by rw [ht]; exact List.mem_append_left _ z)⟩
/-- something is hidden meanwhile -/
theorem Rel.hide {m : Mp} {st : Sto} {H : Hp} (r : Rel K m st H) {p : Addr} {o : HO} (n : H p = none) (nt : NoT o) : Rel K ⟨m.ad, p :: m.hid⟩ st (upd H p o) ∧ hm ⟨m.ad, p :: m.hid⟩ (upd H p o) = hm m H := by
  obtain ⟨nm, nh⟩ := r.fresh_ne n
  have sm : hm ⟨m.ad, p :: m.hid⟩ (upd H p o) = hm m H := by
    funext b
    by_cases hb : b = p
    · subst hb
      unfold hm
      simp [n]
    · unfold hm
      simp only [List.mem_cons, hb, false_or, upd_ne hb]
  refine ⟨⟨r.len, r.nd, fun i o' a h1 h2 => ?_, fun a ha => ?_⟩, sm⟩
  · obtain ⟨u, e, q⟩ := r.get i o' a h1 h2
    rw [sm]
    exact ⟨u, by rw [upd_ne (ne_of_none e n)]; exact e, q⟩
  · rcases List.mem_cons.mp ha with rfl | ha
    · exact ⟨⟨o, upd_same, nt⟩, nm⟩
    · obtain ⟨⟨u, e, nt⟩, h⟩ := r.hd a ha
      have ne : a ≠ p := fun z => nh (z ▸ ha)
      exact ⟨⟨u, by rw [upd_ne ne]; exact e, nt⟩, h⟩
/-- what is hidden is changed -/
theorem Rel.hput {m : Mp} {st : Sto} {H : Hp} {p : Addr} (r : Rel K m st H) (o : HO) (nt : NoT o) (hp : p ∈ m.hid) : Rel K m st (upd H p o) ∧ hm m (upd H p o) = hm m H := by
  have sm : hm m (upd H p o) = hm m H := by
    funext b
    by_cases hb : b = p
    · subst hb
      unfold hm
      simp [hp]
    · unfold hm
      simp only [upd_ne hb]
  refine ⟨⟨r.len, r.nd, fun i o' a h1 h2 => ?_, fun a ha => ?_⟩, sm⟩
  · obtain ⟨u, e, q⟩ := r.get i o' a h1 h2
    rw [sm]
    refine ⟨u, ?_, q⟩
    rw [upd_ne]
    · exact e
    · intro z
      exact (r.hd p hp).2 (z ▸ List.mem_of_getElem? h2)
  · obtain ⟨⟨u, e, nt0⟩, h⟩ := r.hd a ha
    by_cases hb : a = p
    · subst hb; exact ⟨⟨o, upd_same, nt⟩, h⟩
    · exact ⟨⟨u, by rw [upd_ne hb]; exact e, nt0⟩, h⟩
/-- it comes to light: the heap without it -/
def out1 (H : Hp) (p : Addr) : Hp := fun a => if a = p then none else H a
theorem out1_upd {H : Hp} {p : Addr} {o : HO} (h : H p = some o) : upd (out1 H p) p o = H := by
  funext b
  unfold upd out1
  split
  · rename_i e; subst e; exact h.symm
  · rfl
theorem Rel.show {m : Mp} {st : Sto} {H : Hp} {p : Addr} (r : Rel K ⟨m.ad, p :: m.hid⟩ st H) (n : p ∉ m.hid) : Rel K m st (out1 H p) ∧ hm m (out1 H p) = hm ⟨m.ad, p :: m.hid⟩ H := by
  have np : p ∉ m.ad := (r.hd p (by simp)).2
  have sm : hm m (out1 H p) = hm ⟨m.ad, p :: m.hid⟩ H := by
    funext b
    by_cases hb : b = p
    · subst hb
      unfold hm out1
      simp
    · unfold hm out1
      simp only [List.mem_cons, hb, false_or, if_false]
  refine ⟨⟨r.len, r.nd, fun i o' a h1 h2 => ?_, fun a ha => ?_⟩, sm⟩
  · obtain ⟨u, e, q⟩ := r.get i o' a h1 h2
    rw [sm]
    refine ⟨u, ?_, q⟩
    unfold out1
    have ne : a ≠ p := fun z => np (z ▸ List.mem_of_getElem? h2)
    rw [if_neg ne]
    exact e
  · obtain ⟨⟨u, e, nt⟩, h⟩ := r.hd a (List.mem_cons_of_mem _ ha)
    refine ⟨⟨u, ?_, nt⟩, h⟩
    unfold out1
    have ne : a ≠ p := fun z => n (z ▸ ha)
    rw [if_neg ne]
    exact e

/-- the object at a is a refusal of this class, its dict at d -/
def xob (a : Addr) (cls : Value) (d : Option Addr) : HO := .ext fun h => ∃ oe vs, h.get? a = some oe ∧ oe.cls = cls ∧ oe.dict = d ∧ oe.data = .fields vs
/-- the class cls of a refusal, its dict d -/
def RepX (K : PySem.W.Frag) (m : Mp) (H : Hp) (x : Xn) (cls : Value) (d : Option Addr) : Prop :=
  PySem.W.nsIn K mainGlobals x.cls = some (some cls) ∧ match d with
    | none => x.fs = []
    | some a => ∃ vs, hm m H a = some (.xd ((x.fs.map (·.1)).zip vs)) ∧ RepDs K (hm m H) (x.fs.map (·.2)) vs
theorem RepX.ext {m m' : Mp} {H H' : Hp} (e : Ext m H m' H') {x : Xn} {cls : Value} {d : Option Addr} (h : RepX K m H x cls d) : RepX K m' H' x cls d := by
  obtain ⟨h1, h2⟩ := h
  refine ⟨h1, ?_⟩
  cases d with
  | none => exact h2
  | some a =>
    obtain ⟨vs, h3, h4⟩ := h2
    exact ⟨vs, e.same _ _ h3, RepDs.mono e.same _ _ h4⟩
def RepV (K : PySem.W.Frag) (m : Mp) (H : Hp) : Vv → V → Prop
  | .d x, v => RepD K (hm m H) x v
  | .ref n, v => ∃ a, m.ad[n]? = some a ∧ v = .ref a
  | .exn x, v => ∃ a cls d, v = .ref a ∧ hm m H a = some (xob a cls d) ∧ RepX K m H x cls d
theorem RepV.ext {m m' : Mp} {H H' : Hp} (e : Ext m H m' H') : ∀ {x : Vv} {v : V}, RepV K m H x v → RepV K m' H' x v
  | .d x, _, h => RepD.mono e.same x _ h
  | .exn x, _, ⟨a, cls, d, r, h1, h2⟩ => ⟨a, cls, d, r, e.same _ _ h1, h2.ext e⟩
  | .ref n, _, ⟨a, h, r⟩ => by
    obtain ⟨t, ht⟩ := e.pre
    exact ⟨a, by rw [ht, List.getElem?_append_left (List.getElem?_eq_some_iff.mp h).1]; exact h, r⟩
def RepE (K : PySem.W.Frag) (m : Mp) (H : Hp) (en : En) (σ : L2.St) : Prop :=
  en.length = σ.length ∧ ∀ (i : Nat) x, en[i]? = some (some x) → ∃ v, σ[i]? = some (some v) ∧ RepV K m H x v
theorem RepE.ext {m m' : Mp} {H H' : Hp} (e : Ext m H m' H') {en : En} {σ : L2.St} (h : RepE K m H en σ) : RepE K m' H' en σ :=
  ⟨h.1, fun i x q => let ⟨v, a, b⟩ := h.2 i x q; ⟨v, a, b.ext e⟩⟩
theorem RepE.set {m : Mp} {H : Hp} {en : En} {σ : L2.St} (h : RepE K m H en σ) {x : Vv} {v : V} (q : RepV K m H x v) (i : Nat) : RepE K m H (en.set i (some x)) (σ.set i (some v)) := by
  refine ⟨by simpa using h.1, fun j y e => ?_⟩
  by_cases hj : j = i
  · subst hj
    have hl : j < en.length := by
      have := (List.getElem?_eq_some_iff.mp e).1
      simpa using this
    rw [List.getElem?_set_self hl] at e
    cases e
    exact ⟨v, by rw [List.getElem?_set_self (by rw [← h.1]; exact hl)], q⟩
  · rw [List.getElem?_set_ne (Ne.symm hj)] at e
    obtain ⟨w, a, b⟩ := h.2 j y e
    exact ⟨w, by rw [List.getElem?_set_ne (Ne.symm hj)]; exact a, b⟩
def RepVs (K : PySem.W.Frag) (m : Mp) (H : Hp) (xs : List Vv) (vs : List V) : Prop := Paired (RepV K m H) xs vs

/-! ### a reading from an evaluation -/
structure Gx where
  K : PySem.W.Frag
  mg : Str → Option Value
  W : WX
def Out (g : Gx) (m : Mp) (H : Hp) (σ : L2.St) {α β : Type} (rep : Mp → Hp → α → β → Prop) (Q : β → Hp → Prop) : R α → Prop
  | .ok x st => ∀ m' H' v, Ext m H m' H' → Rel g.K m' st H' → rep m' H' x v → Q v H'
  | .exc x st => ∀ m' H' cls d, Ext m H m' H' → Rel g.K m' st H' → RepX g.K m' H' x cls d → g.W cls d σ H'
  | .stuck => False
theorem Out.ext {g : Gx} {m m1 : Mp} {H H1 : Hp} {σ : L2.St} {α β : Type} {rep : Mp → Hp → α → β → Prop} {Q : β → Hp → Prop} {r : R α} (e : Ext m H m1 H1) (h : Out g m H σ rep Q r) : Out g m1 H1 σ rep Q r := by
  cases r with
  | ok x st => exact fun m' H' v q => h m' H' v (e.trans q)
  | exc x st => exact fun m' H' c d q => h m' H' c d (e.trans q)
  | stuck => exact h
/-- two steps -/
theorem Out.bind {g : Gx} {m : Mp} {H : Hp} {σ : L2.St} {α β γ δ : Type} {rep : Mp → Hp → α → β → Prop} {rep' : Mp → Hp → γ → δ → Prop} {Q : δ → Hp → Prop} {r : R α} {f : α → Sto → R γ} {P : β → Hp → Prop} (h : Out g m H σ rep' Q (r.bind f))
    (k : ∀ x st m' H' v, r = .ok x st → Ext m H m' H' → Rel g.K m' st H' → rep m' H' x v → Out g m' H' σ rep' Q (f x st) → P v H') : Out g m H σ rep P r := by
  cases r with
  | ok x st => exact fun m' H' v e l q => k x st m' H' v rfl e l q (Out.ext e h)
  | exc x st => exact h
  | stuck => exact h
def LE (g : Gx) (f : En → Sto → R Vv) : TE := fun σ H Q => ∃ m en st, Rel g.K m st H ∧ RepE g.K m H en σ ∧ Out g m H σ (RepV g.K) Q (f en st)
def LT (g : Gx) (f : En → Sto → R Bool) : TT := fun σ H Q => ∃ m en st, Rel g.K m st H ∧ RepE g.K m H en σ ∧ Out g m H σ (fun _ _ (a b : Bool) => a = b) Q (f en st)
def LA (g : Gx) (f : En → Sto → R (List Vv)) : TA := fun σ H Q => ∃ m en st, Rel g.K m st H ∧ RepE g.K m H en σ ∧ Out g m H σ (RepVs g.K) Q (f en st)
theorem pe_weak {X : Cx} {e : Expr} {t t' : TE} (h : PE X e t) (k : ∀ σ H Q, t' σ H Q → t σ H Q) : PE X e t' := ⟨fun pins s σ H Q I q => h.run pins s σ H Q I (k σ H Q q)⟩
theorem pt_weak {X : Cx} {e : Expr} {t t' : TT} (h : PT X e t) (k : ∀ σ H Q, t' σ H Q → t σ H Q) : PT X e t' := ⟨fun pins s σ H Q I q => h.run pins s σ H Q I (k σ H Q q)⟩
theorem pa_weak {X : Cx} {e : List Expr} {t t' : TA} (h : PA X e t) (k : ∀ σ H Q, t' σ H Q → t σ H Q) : PA X e t' := ⟨fun pos pins s σ H Q I q => h.run pos pins s σ H Q I (k σ H Q q)⟩
theorem ps_weak {X : Cx} {e : Stmt} {t t' : TS} (h : PS X e t) (k : ∀ D σ H, t' D σ H → t D σ H) : PS X e t' := ⟨fun pins s σ H D I q => h.run pins s σ H D I (k D σ H q)⟩
theorem pss_weak {X : Cx} {e : List Stmt} {t t' : TS} (h : PSs X e t) (k : ∀ D σ H, t' D σ H → t D σ H) : PSs X e t' := ⟨fun pins s σ H D I q => h.run pins s σ H D I (k D σ H q)⟩
end TW
namespace TW
open PySem PySem.Spec PyProof.Rows L2

/-! ### what the operators tell of data -/
mutual
def toPy : D → Option PyData
  | .non => some .none
  | .bl b => some (.bool b)
  | .int i => some (.int i)
  | .str s => some (.str s)
  | .tup xs => match toPys xs with | some ys => some (.tuple ys) | none => none
  | .lst xs => match toPys xs with | some ys => some (.list ys) | none => none
  | .dct _ _ => none
def toPys : List D → Option (List PyData)
  | [] => some []
  | x :: xs => match toPy x, toPys xs with | some y, some ys => some (y :: ys) | _, _ => none
end
mutual
/-- how deep -/
def dep : D → Nat
  | .tup xs => deps xs + 1
  | .lst xs => deps xs + 1
  | .dct _ xs => 100
  | _ => 0
def deps : List D → Nat
  | [] => 0
  | x :: xs => max (dep x) (deps xs)
end
mutual
/-- == of data -/
def eqD : D → D → Bool
  | .non, .non => true
  | .bl a, .bl b => a == b
  | .bl a, .int j => (if a then 1 else 0) == j
  | .int i, .bl b => i == (if b then 1 else 0)
  | .int i, .int j => i == j
  | .str x, .str y => x == y
  | .lst xs, .lst ys => eqDs xs ys
  | .tup xs, .tup ys => eqDs xs ys
  | _, _ => false
def eqDs : List D → List D → Bool
  | [], [] => true
  | x :: xs, y :: ys => eqD x y && eqDs xs ys
  | _, _ => false
end
mutual
theorem toPy_dep : ∀ (d : D), dep d ≤ 64 → ∃ y, toPy d = some y ∧ y.depth = dep d
  | .non, _ => ⟨_, rfl, rfl⟩
  | .bl _, _ => ⟨_, rfl, rfl⟩
  | .int _, _ => ⟨_, rfl, rfl⟩
  | .str _, _ => ⟨_, rfl, rfl⟩
  | .dct _ _, h => by simp [dep] at h
  | .tup xs, h => by
    obtain ⟨ys, e, q⟩ := toPys_dep xs (by simp only [dep] at h; omega)
    exact ⟨.tuple ys, by simp only [toPy, e], by simp only [PyData.depth, dep, q]⟩
  | .lst xs, h => by
    obtain ⟨ys, e, q⟩ := toPys_dep xs (by simp only [dep] at h; omega)
    exact ⟨.list ys, by simp only [toPy, e], by simp only [PyData.depth, dep, q]⟩
theorem toPys_dep : ∀ (ds : List D), deps ds ≤ 64 → ∃ ys, toPys ds = some ys ∧ PyData.depthAll ys = deps ds
  | [], _ => ⟨[], rfl, rfl⟩
  | x :: xs, h => by
    simp only [deps] at h
    obtain ⟨y, e, q⟩ := toPy_dep x (by omega)
    obtain ⟨ys, e', q'⟩ := toPys_dep xs (by omega)
    exact ⟨y :: ys, by simp only [toPys, e, e'], by simp only [PyData.depthAll, deps, q, q']⟩
end
mutual
theorem toPy_eq : ∀ (a b : D) {x y : PyData}, toPy a = some x → toPy b = some y → PyData.eqv x y = eqD a b
  | .tup xs, .tup ys, x, y, h, g => by
    simp only [toPy] at h g
    split at h <;> cases h
    split at g <;> cases g
    simp only [PyData.eqv, eqD]
    exact toPys_eq xs ys (by assumption) (by assumption)
  | .lst xs, .lst ys, x, y, h, g => by
    simp only [toPy] at h g
    split at h <;> cases h
    split at g <;> cases g
    simp only [PyData.eqv, eqD]
    exact toPys_eq xs ys (by assumption) (by assumption)
  | .non, b, x, y, h, g => by cases b <;> simp only [toPy] at h g <;> (try split at g) <;> cases h <;> cases g <;> simp [PyData.eqv, eqD]
  | .bl _, b, x, y, h, g => by cases b <;> simp only [toPy] at h g <;> (try split at g) <;> cases h <;> cases g <;> simp [PyData.eqv, eqD]
  | .int _, b, x, y, h, g => by cases b <;> simp only [toPy] at h g <;> (try split at g) <;> cases h <;> cases g <;> simp [PyData.eqv, eqD]
  | .str _, b, x, y, h, g => by cases b <;> simp only [toPy] at h g <;> (try split at g) <;> cases h <;> cases g <;> simp [PyData.eqv, eqD]
  | .dct _ _, b, x, y, h, g => by simp only [toPy] at h; cases h
  | .tup xs, .lst ys, x, y, h, g => by simp only [toPy] at h g; split at h <;> cases h; split at g <;> cases g; simp [PyData.eqv, eqD]
  | .lst xs, .tup ys, x, y, h, g => by simp only [toPy] at h g; split at h <;> cases h; split at g <;> cases g; simp [PyData.eqv, eqD]
  | .tup xs, .non, x, y, h, g => by simp only [toPy] at h g; split at h <;> cases h; cases g; simp [PyData.eqv, eqD]
  | .tup xs, .bl _, x, y, h, g => by simp only [toPy] at h g; split at h <;> cases h; cases g; simp [PyData.eqv, eqD]
  | .tup xs, .int _, x, y, h, g => by simp only [toPy] at h g; split at h <;> cases h; cases g; simp [PyData.eqv, eqD]
  | .tup xs, .str _, x, y, h, g => by simp only [toPy] at h g; split at h <;> cases h; cases g; simp [PyData.eqv, eqD]
  | .tup xs, .dct _ _, x, y, h, g => by simp only [toPy] at g; cases g
  | .lst xs, .non, x, y, h, g => by simp only [toPy] at h g; split at h <;> cases h; cases g; simp [PyData.eqv, eqD]
  | .lst xs, .bl _, x, y, h, g => by simp only [toPy] at h g; split at h <;> cases h; cases g; simp [PyData.eqv, eqD]
  | .lst xs, .int _, x, y, h, g => by simp only [toPy] at h g; split at h <;> cases h; cases g; simp [PyData.eqv, eqD]
  | .lst xs, .str _, x, y, h, g => by simp only [toPy] at h g; split at h <;> cases h; cases g; simp [PyData.eqv, eqD]
  | .lst xs, .dct _ _, x, y, h, g => by simp only [toPy] at g; cases g
theorem toPys_eq : ∀ (as bs : List D) {xs ys : List PyData}, toPys as = some xs → toPys bs = some ys → PyData.eqvAll xs ys = eqDs as bs
  | [], [], xs, ys, h, g => by simp only [toPys] at h g; cases h; cases g; simp [PyData.eqvAll, eqDs]
  | [], b :: bs, xs, ys, h, g => by
    simp only [toPys] at h g; cases h
    split at g <;> cases g
    simp [PyData.eqvAll, eqDs]
  | a :: as, [], xs, ys, h, g => by
    simp only [toPys] at h g; cases g
    split at h <;> cases h
    simp [PyData.eqvAll, eqDs]
  | a :: as, b :: bs, xs, ys, h, g => by
    simp only [toPys] at h g
    split at h <;> cases h
    split at g <;> cases g
    rename_i h1 h2 _ _ _ _ g1 g2
    simp only [PyData.eqvAll, eqDs, toPy_eq a b h1 g1, toPys_eq as bs h2 g2]
end
variable {K : PySem.W.Frag} {H : Hp}
mutual
theorem RepD.dp : ∀ (d : D) (v : V) {y : PyData}, RepD K H d v → toPy d = some y → Dp K H v y ∧ y.canLay0 = true
  | .non, _, _, h, e => by simp only [RepD, toPy] at h e; subst h; cases e; exact ⟨.non, rfl⟩
  | .bl _, _, _, h, e => by simp only [RepD, toPy] at h e; subst h; cases e; exact ⟨.bl _, rfl⟩
  | .int _, _, _, h, e => by simp only [RepD, toPy] at h e; subst h; cases e; exact ⟨.int _, rfl⟩
  | .str _, _, _, h, e => by simp only [RepD, toPy] at h e; obtain ⟨rfl, _, q⟩ := h; cases e; exact ⟨.str _, by simpa only [PyData.canLay0] using q⟩
  | .dct _ _, _, _, _, e => by simp only [toPy] at e; cases e
  | .tup xs, _, _, h, e => by
    simp only [RepD, toPy] at h e
    split at e <;> cases e
    obtain ⟨a, vs, rfl, q, _, z, _⟩ := h
    obtain ⟨p, c⟩ := RepDs.dp xs vs z (by assumption)
    exact ⟨.tup q p, by simpa only [PyData.canLay0] using c⟩
  | .lst xs, _, _, h, e => by
    simp only [RepD, toPy] at h e
    split at e <;> cases e
    obtain ⟨a, vs, rfl, q, _, z⟩ := h
    obtain ⟨p, c⟩ := RepDs.dp xs vs z (by assumption)
    exact ⟨.lst q p, by simpa only [PyData.canLay0] using c⟩
theorem RepDs.dp : ∀ (ds : List D) (vs : List V) {ys : List PyData}, RepDs K H ds vs → toPys ds = some ys → DpAll K H vs ys ∧ PyData.canLayAll0 ys = true
  | [], _, _, h, e => by simp only [RepDs, toPys] at h e; subst h; cases e; exact ⟨.nil, rfl⟩
  | d :: ds, _, _, h, e => by
    obtain ⟨v, r, rfl, p, q⟩ := h.uncons
    simp only [toPys] at e
    split at e <;> cases e
    obtain ⟨a1, a2⟩ := RepD.dp d v p (by assumption)
    obtain ⟨b1, b2⟩ := RepDs.dp ds r q (by assumption)
    exact ⟨.cons a1 b1, by simp only [PyData.canLayAll0, a2, b2, Bool.and_self]⟩
end
/-- what == asks and tells -/
theorem eq_dp {a b : D} {x y : V} (ha : RepD K H a x) (hb : RepD K H b y) (da : dep a ≤ 64) (db : dep b ≤ 64) :
    ∃ d e, Dp K H x d ∧ Dp K H y e ∧ SeqAt.shaped d = true ∧ SeqAt.shaped e = true ∧ PyData.eqv d e = eqD a b := by
  obtain ⟨d, e1, z1⟩ := toPy_dep a da
  obtain ⟨e, e2, z2⟩ := toPy_dep b db
  obtain ⟨p1, q1⟩ := RepD.dp a x ha e1
  obtain ⟨p2, q2⟩ := RepD.dp b y hb e2
  refine ⟨d, e, p1, p2, ?_, ?_, toPy_eq a b e1 e2⟩
  · unfold SeqAt.shaped; rw [q1, z1]; simp [da]
  · unfold SeqAt.shaped; rw [q2, z2]; simp [db]
end TW
namespace TW
open PySem PySem.Spec PyProof.Rows L2

/-! ### repr of data -/
def keyPy : Key → PyData
  | .inl i => .int i
  | .inr s => .str s
mutual
def toPyT : D → PyData
  | .non => .none
  | .bl b => .bool b
  | .int i => .int i
  | .str s => .str s
  | .tup xs => .tuple (toPyTs xs)
  | .lst xs => .list (toPyTs xs)
  | .dct ks xs => .dict ((ks.map keyPy).zip (toPyTs xs))
def toPyTs : List D → List PyData
  | [] => []
  | x :: xs => toPyT x :: toPyTs xs
end
def wK : Key → Nat
  | .inl i => i.natAbs.log2 + 3
  | .inr s => 10 * s.length + 2
def wKs : List Key → Nat
  | [] => 0
  | k :: ks => wK k + 2 + wKs ks
def smK : Key → Bool
  | .inl i => decide (i.natAbs.log2 < 1920)
  | .inr s => PyData.strOk s
mutual
/-- how long its text is at most -/
def wD : D → Nat
  | .non => 4
  | .bl _ => 5
  | .int i => i.natAbs.log2 + 3
  | .str s => 10 * s.length + 2
  | .tup xs => wDs xs + 3
  | .lst xs => wDs xs + 3
  | .dct ks xs => wKs ks + wDs xs + 3
def wDs : List D → Nat
  | [] => 0
  | x :: xs => wD x + 2 + wDs xs
end
mutual
/-- no int too great to be shown -/
def smD : D → Bool
  | .int i => decide (i.natAbs.log2 < 1920)
  | .tup xs => smDs xs
  | .lst xs => smDs xs
  | .dct ks xs => ks.all smK && smDs xs
  | _ => true
def smDs : List D → Bool
  | [] => true
  | x :: xs => smD x && smDs xs
end
mutual
/-- no lists within, or no dicts -/
def noL : D → Bool
  | .lst _ => false
  | .tup xs => noLs xs
  | .dct _ xs => noLs xs
  | _ => true
def noLs : List D → Bool
  | [] => true
  | x :: xs => noL x && noLs xs
end
mutual
theorem smD_show : ∀ d : D, smD d = true → (toPyT d).showable = true
  | .non, _ => by simp only [toPyT, PyData.showable]
  | .bl _, _ => by simp only [toPyT, PyData.showable]
  | .int _, h => by simpa only [toPyT, PyData.showable, smD] using h
  | .str _, _ => by simp only [toPyT, PyData.showable]
  | .tup xs, h => by simpa only [toPyT, PyData.showable] using smDs_show xs (by simpa only [smD] using h)
  | .lst xs, h => by simpa only [toPyT, PyData.showable] using smDs_show xs (by simpa only [smD] using h)
  | .dct ks xs, h => by
    simp only [smD, Bool.and_eq_true] at h
    simp only [toPyT, PyData.showable]
    exact smKv_show xs ks h.1 h.2
theorem smDs_show : ∀ xs : List D, smDs xs = true → PyData.showableAll (toPyTs xs) = true
  | [], _ => by simp only [toPyTs, PyData.showableAll]
  | x :: xs, h => by
    simp only [smDs, Bool.and_eq_true] at h
    simp only [toPyTs, PyData.showableAll, smD_show x h.1, smDs_show xs h.2, Bool.and_self]
theorem smKv_show : ∀ (xs : List D) (ks : List Key), ks.all smK = true → smDs xs = true → PyData.showableKv ((ks.map keyPy).zip (toPyTs xs)) = true
  | [], ks, _, _ => by simp only [toPyTs, List.zip_nil_right, PyData.showableKv]
  | x :: xs, [], _, _ => by simp only [List.map_nil, List.zip_nil_left, PyData.showableKv]
  | x :: xs, k :: ks, h1, h2 => by
    simp only [List.all_cons, Bool.and_eq_true] at h1
    simp only [smDs, Bool.and_eq_true] at h2
    have hk : (keyPy k).showable = true := by
      cases k with
      | inl i => simpa only [keyPy, PyData.showable, smK] using h1.1
      | inr s => simp only [keyPy, PyData.showable]
    simp only [toPyTs, List.map_cons, List.zip_cons_cons, PyData.showableKv, hk, smD_show x h2.1, smKv_show xs ks h1.2 h2.2, Bool.and_self]
end
mutual
/-- how deep, dicts too -/
def depT : D → Nat
  | .tup xs => depTs xs + 1
  | .lst xs => depTs xs + 1
  | .dct _ xs => depTs xs + 1
  | _ => 0
def depTs : List D → Nat
  | [] => 0
  | x :: xs => max (depT x) (depTs xs)
end
mutual
theorem toPyT_depth : ∀ d : D, (toPyT d).depth ≤ depT d
  | .non => by simp only [toPyT, PyData.depth, depT, Nat.le_refl]
  | .bl _ => by simp only [toPyT, PyData.depth, depT, Nat.le_refl]
  | .int _ => by simp only [toPyT, PyData.depth, depT, Nat.le_refl]
  | .str _ => by simp only [toPyT, PyData.depth, depT, Nat.le_refl]
  | .tup xs => by have := toPyTs_depth xs; simp only [toPyT, PyData.depth, depT]; omega
  | .lst xs => by have := toPyTs_depth xs; simp only [toPyT, PyData.depth, depT]; omega
  | .dct ks xs => by have := toPyKv_depth xs ks; simp only [toPyT, PyData.depth, depT]; omega
theorem toPyTs_depth : ∀ xs : List D, PyData.depthAll (toPyTs xs) ≤ depTs xs
  | [] => by simp only [toPyTs, PyData.depthAll, depTs, Nat.le_refl]
  | x :: xs => by
    have := toPyT_depth x
    have := toPyTs_depth xs
    simp only [toPyTs, PyData.depthAll, depTs]
    omega
theorem toPyKv_depth : ∀ (xs : List D) (ks : List Key), PyData.depthKv ((ks.map keyPy).zip (toPyTs xs)) ≤ depTs xs
  | [], ks => by simp only [toPyTs, List.zip_nil_right, PyData.depthKv, depTs, Nat.le_refl]
  | x :: xs, [] => by simp only [List.map_nil, List.zip_nil_left, PyData.depthKv, Nat.zero_le]
  | x :: xs, k :: ks => by
    have := toPyT_depth x
    have := toPyKv_depth xs ks
    have hk : (keyPy k).depth = 0 := by cases k <;> simp only [keyPy, PyData.depth]
    simp only [toPyTs, List.map_cons, List.zip_cons_cons, PyData.depthKv, depTs]
    omega
end
/-- texts' signs are signs -/
theorem ok_iff {s : Str} : PyData.strOk s = true ↔ ∀ c ∈ s.cps.toList, c < 0x110000 := by
  unfold PyData.strOk
  rw [Array.all_eq_true_iff_forall_mem]
  simp
theorem ok_app {a b : Str} (h1 : PyData.strOk a = true) (h2 : PyData.strOk b = true) : PyData.strOk (a ++ b) = true := by
  rw [ok_iff] at *
  intro c hc
  have e : (a ++ b).cps.toList = a.cps.toList ++ b.cps.toList := by
    show (a.cps ++ b.cps).toList = _
    simp
  rw [e, List.mem_append] at hc
  exact hc.elim (h1 c) (h2 c)
theorem char_lt (c : Char) : c.toNat < 0x110000 := by
  have h := c.valid
  have h2 : c.toNat = c.val.toNat := rfl
  rcases h with h | h
  · have : c.val.toNat < 0xd800 := h
    omega
  · have : c.val.toNat < 0x110000 := h.2
    omega
theorem ok_of (s : String) : PyData.strOk (Str.ofString s) = true := by
  rw [ok_iff]
  intro c hc
  have : ∃ x : Char, c = x.toNat := by
    have hc : c ∈ (s.toList.map Char.toNat) := by
      rw [Str.ofString_eq_toList] at hc
      simpa using hc
    obtain ⟨x, _, rfl⟩ := List.mem_map.mp hc
    exact ⟨x, rfl⟩
  obtain ⟨x, rfl⟩ := this
  exact char_lt x
theorem ok_join (sep : Str) (h : PyData.strOk sep = true) : ∀ ts : List Str, (∀ t ∈ ts, PyData.strOk t = true) → PyData.strOk (Str.join sep ts) = true
  | [], _ => by simp [Str.join, PyData.strOk, Str.empty]
  | [x], hx => hx x (by simp)
  | x :: y :: r, hx => by
    show PyData.strOk (x ++ sep ++ Str.join sep (y :: r)) = true
    exact ok_app (ok_app (hx x (by simp)) h) (ok_join sep h (y :: r) fun t ht => hx t (List.mem_cons_of_mem _ ht))
theorem rc_lt {q c : Nat} (hq : q < 0x110000) (hc : c < 0x110000) : ∀ x ∈ Builtin.Str.reprChar q c, x < 0x110000 := by
  have hd : ∀ w, ∀ x ∈ (List.replicate (w - ((Nat.toDigits 16 c).map Char.toNat).length) 48 ++ (Nat.toDigits 16 c).map Char.toNat), x < 0x110000 := by
    intro w x hx
    rcases List.mem_append.mp hx with h | h
    · rw [(List.mem_replicate.mp h).2]; decide
    · obtain ⟨y, _, rfl⟩ := List.mem_map.mp h
      exact char_lt y
  intro x hx
  unfold Builtin.Str.reprChar at hx
  dsimp only at hx
  split at hx
  · simp at hx; omega
  split at hx
  · simp at hx; omega
  split at hx
  · simp at hx; omega
  split at hx
  · simp at hx; omega
  split at hx
  · simp at hx; omega
  split at hx
  · rcases List.mem_append.mp hx with h | h
    · simp at h; omega
    · exact hd _ x h
  split at hx
  · rcases List.mem_append.mp hx with h | h
    · simp at h; omega
    · exact hd _ x h
  · rcases List.mem_append.mp hx with h | h
    · simp at h; omega
    · exact hd _ x h
theorem ok_repr {s : Str} (h : PyData.strOk s = true) : PyData.strOk (reprText s) = true := by
  rw [ok_iff] at *
  have hq : reprQuote s < 0x110000 := by unfold reprQuote; split <;> decide
  have key : ∀ (l : List Nat) (acc : Array Nat), (∀ c ∈ l, c < 0x110000) → (∀ c ∈ acc.toList, c < 0x110000) → ∀ c ∈ (l.foldl (fun out c => out ++ (Builtin.Str.reprChar (reprQuote s) c).toArray) acc).toList, c < 0x110000 := by
    intro l
    induction l with
    | nil => intro acc _ h2; simpa using h2
    | cons x l ih =>
      intro acc h1 h2
      simp only [List.foldl_cons]
      refine ih _ (fun c hc => h1 c (List.mem_cons_of_mem _ hc)) fun c hc => ?_
      rw [Array.toList_append, List.mem_append] at hc
      rcases hc with hc | hc
      · exact h2 c hc
      · exact rc_lt hq (h1 x (by simp)) c (by simpa using hc)
  intro c hc
  unfold reprText at hc
  simp only [Array.toList_push, List.mem_append, List.mem_singleton, ← Array.foldl_toList] at hc
  rcases hc with hc | rfl
  · exact key s.cps.toList #[reprQuote s] h (by simpa using hq) c hc
  · exact hq
theorem int_len {i : Int} : (PyData.shown (.int i)).length ≤ i.natAbs.log2 + 3 := by
  have h := int_text_length_le (a := i) (k := i.natAbs.log2 + 1) (by omega) (by omega)
  simp only [PyData.shown]
  show (Str.ofString (toString i)).length ≤ _
  rw [PySem.ofString_length]
  omega
theorem key_ok {k : Key} (h : smK k = true) : PyData.strOk (keyPy k).shown = true ∧ (keyPy k).shown.length ≤ wK k := by
  cases k with
  | inl i => exact ⟨by simp only [keyPy, PyData.shown]; exact ok_of _, int_len⟩
  | inr s =>
    have h : PyData.strOk s = true := h
    refine ⟨by simp only [keyPy, PyData.shown]; exact ok_repr h, ?_⟩
    simp only [keyPy, PyData.shown, wK]
    refine StrLaws.reprText_len s fun c hc => ?_
    have := ok_iff.mp h c hc
    omega
mutual
theorem shown_ok {K : PySem.W.Frag} {H : Hp} : ∀ (d : D) (v : V), RepD K H d v → smD d = true → PyData.strOk (toPyT d).shown = true ∧ (toPyT d).shown.length ≤ wD d
  | .non, _, _, _ => ⟨by simp only [toPyT, PyData.shown]; exact ok_of _, by simp only [toPyT, wD]; decide⟩
  | .bl b, _, _, _ => ⟨by simp only [toPyT, PyData.shown]; cases b <;> exact ok_of _, by simp only [toPyT, wD]; cases b <;> decide⟩
  | .int i, _, _, h => ⟨by simp only [toPyT, PyData.shown]; exact ok_of _, int_len⟩
  | .str s, _, r, _ => by
    simp only [RepD] at r
    refine ⟨by simp only [toPyT, PyData.shown]; exact ok_repr r.2.2, ?_⟩
    simp only [toPyT, PyData.shown, wD]
    refine StrLaws.reprText_len s fun c hc => ?_
    have := ok_iff.mp r.2.2 c hc
    omega
  | .tup xs, _, r, h => by
    simp only [RepD] at r
    obtain ⟨a, vs, _, _, _, r, _⟩ := r
    obtain ⟨k1, k2, k3⟩ := showns_ok xs vs r (by simpa only [smD] using h)
    simp only [toPyT, PyData.shown, wD]
    refine ⟨?_, ?_⟩
    · unfold tupleText
      refine ok_app (ok_app (ok_of _) (ok_join _ (ok_of _) _ k1)) (ok_of _)
    · have := tupleText_len_le (PyData.shownAll (toPyTs xs))
      omega
  | .lst xs, _, r, h => by
    simp only [RepD] at r
    obtain ⟨a, vs, _, _, _, r⟩ := r
    obtain ⟨k1, k2, k3⟩ := showns_ok xs vs r (by simpa only [smD] using h)
    simp only [toPyT, PyData.shown, wD]
    refine ⟨?_, ?_⟩
    · rw [listText_eq_join]
      refine ok_app (ok_app (ok_of _) (ok_join _ (ok_of _) _ k1)) (ok_of _)
    · have := listText_len_le (PyData.shownAll (toPyTs xs))
      omega
  | .dct ks xs, _, r, h => by
    simp only [RepD] at r
    obtain ⟨a, vs, _, _, _, r⟩ := r
    simp only [smD, Bool.and_eq_true] at h
    obtain ⟨k1, k2⟩ := shownKv_ok xs vs ks r h.1 h.2
    simp only [toPyT, PyData.shown, wD]
    refine ⟨?_, ?_⟩
    · unfold dictText
      exact ok_app (ok_app (ok_of _) (ok_join _ (ok_of _) _ k1)) (ok_of _)
    · have := dictText_len_le (PyData.shownKv ((ks.map keyPy).zip (toPyTs xs)))
      omega
theorem showns_ok {K : PySem.W.Frag} {H : Hp} : ∀ (xs : List D) (vs : List V), RepDs K H xs vs → smDs xs = true → (∀ t ∈ PyData.shownAll (toPyTs xs), PyData.strOk t = true) ∧ ((PyData.shownAll (toPyTs xs)).map (·.length)).sum + 2 * (PyData.shownAll (toPyTs xs)).length ≤ wDs xs ∧ True
  | [], _, _, _ => ⟨by simp [toPyTs, PyData.shownAll], by simp [toPyTs, PyData.shownAll, wDs], trivial⟩
  | x :: xs, _, r, h => by
    obtain ⟨v, w, _, r1, r2⟩ := r.uncons
    simp only [smDs, Bool.and_eq_true] at h
    obtain ⟨a1, a2⟩ := shown_ok x v r1 h.1
    obtain ⟨b1, b2, _⟩ := showns_ok xs w r2 h.2
    refine ⟨?_, ?_, trivial⟩
    · intro t ht
      simp only [toPyTs, PyData.shownAll, List.mem_cons] at ht
      rcases ht with rfl | ht
      · exact a1
      · exact b1 t ht
    · simp only [toPyTs, PyData.shownAll, List.map_cons, List.sum_cons, List.length_cons, wDs]
      omega
theorem shownKv_ok {K : PySem.W.Frag} {H : Hp} : ∀ (xs : List D) (vs : List V) (ks : List Key), RepDs K H xs vs → ks.all smK = true → smDs xs = true → (∀ t ∈ PyData.shownKv ((ks.map keyPy).zip (toPyTs xs)), PyData.strOk t = true) ∧ ((PyData.shownKv ((ks.map keyPy).zip (toPyTs xs))).map (·.length)).sum + 2 * (PyData.shownKv ((ks.map keyPy).zip (toPyTs xs))).length ≤ wKs ks + wDs xs
  | [], _, ks, _, _, _ => by
    simp only [toPyTs, List.zip_nil_right, PyData.shownKv]
    exact ⟨fun t ht => (nomatch ht), by simp⟩
  | x :: xs, _, [], _, _, _ => by
    simp only [List.map_nil, List.zip_nil_left, PyData.shownKv]
    exact ⟨fun t ht => (nomatch ht), by simp⟩
  | x :: xs, _, k :: ks, r, h1, h2 => by
    obtain ⟨v, w, _, r1, r2⟩ := r.uncons
    simp only [List.all_cons, Bool.and_eq_true] at h1
    simp only [smDs, Bool.and_eq_true] at h2
    obtain ⟨a1, a2⟩ := shown_ok x v r1 h2.1
    obtain ⟨b1, b2⟩ := shownKv_ok xs w ks r2 h1.2 h2.2
    obtain ⟨c1, c2⟩ := key_ok h1.1
    simp only [toPyTs, List.map_cons, List.zip_cons_cons, PyData.shownKv]
    refine ⟨?_, ?_⟩
    · intro t ht
      rcases List.mem_cons.mp ht with rfl | ht
      · exact ok_app (ok_app c1 (ok_of _)) a1
      · exact b1 t ht
    · have e2 : ((keyPy k).shown ++ ": " ++ (toPyT x).shown).length = (keyPy k).shown.length + 2 + (toPyT x).shown.length := by
        rw [strLen_append, strLen_append]; rfl
      simp only [List.map_cons, List.sum_cons, List.length_cons, wDs, wKs, e2]
      omega
end
def reprD : List D → Option D
  | [d] => if smD d = true ∧ wD d ≤ 16000000 ∧ depT d ≤ 64 ∧ ((toPyT d).hasDict = true → noL d = true) then some (.str (toPyT d).shown) else none
  | _ => none
end TW
namespace TW
open PySem PySem.Spec PyProof.Rows L2
/-! ### texts in order -/
def leS (a b : Str) : Bool := decide (a.cps.toList ≤ b.cps.toList)
def sortS (xs : List Str) : List Str := xs.mergeSort leS
theorem leS_trans (a b c : Str) (h1 : leS a b = true) (h2 : leS b c = true) : leS a c = true := by
  simp only [leS, decide_eq_true_eq] at *
  exact List.le_trans h1 h2
theorem leS_total (a b : Str) : (leS a b || leS b a) = true := by
  simp only [leS, Bool.or_eq_true, decide_eq_true_eq]
  exact List.le_total _ _
theorem leS_anti {a b : Str} (h1 : leS a b = true) (h2 : leS b a = true) : a = b := by
  simp only [leS, decide_eq_true_eq] at *
  exact PySem.W.str_of_cps (List.le_antisymm h1 h2)
theorem sortS_pair (xs : List Str) : (sortS xs).Pairwise fun a b => leS a b = true := List.pairwise_mergeSort leS_trans leS_total xs
theorem sortS_perm (xs : List Str) : (sortS xs).Perm xs := List.mergeSort_perm xs leS
theorem sortS_eq {xs ys : List Str} (h : xs.Perm ys) : sortS xs = sortS ys :=
  List.Perm.eq_of_pairwise (fun _ _ _ _ h1 h2 => leS_anti h1 h2) (sortS_pair xs) (sortS_pair ys) ((sortS_perm xs).trans (h.trans (sortS_perm ys).symm))
/-- one more of a set -/
def addK (L : List Str) (k : Str) : List Str := if k ∈ L then L else k :: L
theorem addK_len (L : List Str) (k : Str) : (addK L k).length ≤ L.length + 1 := by unfold addK; split <;> simp
theorem addK_mem {L : List Str} {k x : Str} : x ∈ addK L k ↔ x = k ∨ x ∈ L := by
  unfold addK
  split
  · rename_i h
    exact ⟨.inr, fun z => z.elim (fun e => e ▸ h) id⟩
  · simp
theorem addK_nodup {L : List Str} (h : L.Nodup) (k : Str) : (addK L k).Nodup := by
  unfold addK
  split
  · exact h
  · rename_i hk
    exact List.nodup_cons.mpr ⟨hk, h⟩
/-- the texts met, in a set -/
def setOf (xs : List Str) : List Str := xs.foldl addK []
/-! ### rows of data in order -/
def leP (a b : D) : Bool := !PySem.W.dataLt (toPyT b) (toPyT a)
def isTupP : PyData → Bool
  | .tuple (_ :: _) => true
  | _ => false
def noTupP : PyData → Bool
  | .none => false
  | .tuple _ => false
  | _ => true
def srtOk (xs : List D) : Bool := (xs.all fun a => xs.all fun b => PySem.W.alike (toPyT a) (toPyT b)) && ((xs.all fun a => isTupP (toPyT a)) || xs.all fun a => noTupP (toPyT a)) && xs.all fun a => decide (depT a ≤ 60)
def srtD : List D → Option D
  | [.lst xs] => if srtOk xs = true then some (.lst (xs.mergeSort leP)) else none
  | [.tup xs] => if srtOk xs = true then some (.lst (xs.mergeSort leP)) else none
  | _ => none
/-- a < b -/
def ltPO (a b : D) : Option Bool := if PySem.W.alike (toPyT a) (toPyT b) = true ∧ isTupP (toPyT a) = true ∧ depT a ≤ 60 ∧ depT b ≤ 60 then some (PySem.W.dataLt (toPyT a) (toPyT b)) else none
end TW
namespace TW
open PySem PySem.Spec PyProof.Rows L2

/-! ### the operators over data -/
def sgn (c : Nat) : Str := ⟨#[c]⟩
def binD : Operator → D → D → Option D
  | .Add, .int i, .int j => some (.int (i + j))
  | .Add, .bl a, .int j => some (.int ((if a = true then 1 else 0) + j))
  | .Sub, .bl a, .int j => some (.int ((if a = true then 1 else 0) - j))
  | .Sub, .int i, .bl b => some (.int (i - if b = true then 1 else 0))
  | .Mult, .bl a, .int j => some (.int ((if a = true then 1 else 0) * j))
  | .Mult, .int i, .bl b => some (.int (i * if b = true then 1 else 0))
  | .Add, .str a, .str b => if a.length + b.length ≤ sizeLine then some (.str (a ++ b)) else none
  | .Add, .lst a, .lst b => if a.length + b.length ≤ sizeLine then some (.lst (a ++ b)) else none
  | .Add, .tup a, .tup b => if a.length + b.length ≤ sizeLine then some (.tup (a ++ b)) else none
  | .Sub, .int i, .int j => some (.int (i - j))
  | .Mult, .int i, .int j => if i.natAbs < 18446744073709551616 ∨ j.natAbs < 18446744073709551616 ∨ i.natAbs.log2 + j.natAbs.log2 < 100000000 then some (.int (i * j)) else none
  | .Mult, .str s, .int n => if 0 ≤ n ∧ n < 1000 ∧ s.length < 1000 then some (.str (Txt.mul s n)) else none
  | .Mult, .tup xs, .int k => if -1000 ≤ k ∧ k ≤ 1000 ∧ xs.length ≤ 1000 then some (.tup (List.replicate k.toNat xs).flatten) else none
  | .FloorDiv, .int i, .int j => if j ≠ 0 ∧ (j.natAbs.log2 < 9000 ∨ i.natAbs.log2 < 13400) then some (.int (i.fdiv j)) else none
  | .Mod, .int i, .int j => if j ≠ 0 then some (.int (i.fmod j)) else none
  | .Pow, .int i, .int j => if 0 ≤ j ∧ j ≤ 1000000 ∧ i.natAbs < 2 ^ 64 then some (.int (i ^ j.toNat)) else none
  | _, _, _ => none
/-- op= of ints and texts -/
def augD : Operator → D → D → Option D
  | .Add, .int i, .int j => some (.int (i + j))
  | .Add, .str a, .str b => if a.length + b.length ≤ sizeLine then some (.str (a ++ b)) else none
  | .Sub, .int i, .int j => some (.int (i - j))
  | _, _, _ => none
/-- a flat thing -/
def flatD : D → Bool
  | .non => true | .bl _ => true | .int _ => true | .str _ => true | _ => false
def inD (x : D) (xs : List D) : Bool := xs.any fun y => eqD y x
def strIn (a b : Str) : Bool := match a.cps.toList with
  | [c] => decide (c ∈ b.cps.toList)
  | _ => !(Builtin.Str.occurrences b a 0 b.length 1).isEmpty
/-- is b the tuple of nothing? -/
def tup0 : D → D → Option Bool
  | .tup xs, .tup [] => some xs.isEmpty
  | _, _ => none
def eqO1 (a b : D) : Option Bool := if dep a ≤ 64 ∧ dep b ≤ 64 then some (eqD a b) else none
def eqO (a b : D) : Option Bool := if dep a ≤ 64 ∧ dep b ≤ 64 then some (eqD a b) else tup0 a b
def ltO : D → D → Option Bool
  | .int i, .int j => some (decide (i < j))
  | .str i, .str j => some (decide (i.cps.toList < j.cps.toList))
  | .tup a, .tup b => ltPO (.tup a) (.tup b)
  | _, _ => none
def leO : D → D → Option Bool
  | .int i, .int j => some (decide (i ≤ j))
  | _, _ => none
def gtO : D → D → Option Bool
  | .int i, .int j => some (decide (j < i))
  | _, _ => none
def geO : D → D → Option Bool
  | .int i, .int j => some (decide (j ≤ i))
  | _, _ => none
/-- a key of a dict -/
def keyOf : D → Option Key
  | .str s => some (.inr s)
  | .int i => some (.inl i)
  | _ => none
def dget : List Key → List D → Key → Option D
  | k :: ks, x :: xs, j => if k = j then some x else dget ks xs j
  | _, _, _ => none
def inO (x : D) : D → Option Bool
  | .str b => match x with | .str a => some (strIn a b) | _ => none
  | .lst xs => if flatD x && xs.all flatD then some (inD x xs) else none
  | .tup xs => if flatD x && xs.all flatD then some (inD x xs) else none
  | .dct ks _ => (match keyOf x with | some k => some (ks.any fun j => decide (j = k)) | none => none)
  | _ => none
def noneD : D → Bool
  | .non => true
  | _ => false
def isO (x : D) : D → Option Bool
  | .non => some (noneD x)
  | .bl b => (match x with | .bl a => some (decide (a = b)) | _ => none)
  | _ => none
def notO (o : Option Bool) : Option Bool := match o with | some b => some (!b) | none => none
def cmpD (op : CmpOp) (a b : D) : Option Bool := match op with
  | .Eq => eqO a b
  | .NotEq => notO (eqO1 a b)
  | .Lt => ltO a b
  | .LtE => leO a b
  | .Gt => gtO a b
  | .GtE => geO a b
  | .In => inO a b
  | .NotIn => notO (inO a b)
  | .Is => isO a b
  | .IsNot => notO (isO a b)
def truD : D → Option Bool
  | .non => some false
  | .bl b => some b
  | .int i => some (i != 0)
  | .str y => some ((y.length : Int) != 0)
  | .lst xs => some (!xs.isEmpty)
  | .tup xs => some (!xs.isEmpty)
  | .dct ks xs => some (!ks.isEmpty)
/-- isinstance of a built-in class -/
def tyD : D → String
  | .non => "NoneType" | .bl _ => "bool" | .int _ => "int" | .str _ => "str" | .tup _ => "tuple" | .lst _ => "list" | .dct _ _ => "dict"
def isiN (n t : String) : Bool := n == t || (n == "bool" && t == "int")
def isiD (t : String) (x : D) : D := .bl (isiN (tyD x) t)
inductive Bf where
  | len | abs | max2 | min2 | divmod | all | any | tupleOf | listOf | intOf | reprOf | sortedOf | strOf
def bools : List D → Option (List Bool)
  | [] => some []
  | .bl b :: xs => match bools xs with | some bs => some (b :: bs) | none => none
  | _ :: _ => none
def lenD : List D → Option D
  | [.str s] => some (.int s.length)
  | [.lst xs] => some (.int xs.length)
  | [.tup xs] => some (.int xs.length)
  | _ => none
def absD : List D → Option D
  | [.int i] => some (.int (if i < 0 then -i else i))
  | _ => none
def maxD : List D → Option D
  | [.int i, .int j] => some (.int (if j > i then j else i))
  | _ => none
def minD : List D → Option D
  | [.int i, .int j] => some (.int (if j < i then j else i))
  | _ => none
def dmD : List D → Option D
  | [.int i, .int j] => if 0 < j ∧ j.natAbs.log2 < 9000 then some (.tup [.int (i / j), .int (i % j)]) else none
  | _ => none
def allD : List D → Option D
  | [.lst xs] => match bools xs with | some bs => some (.bl (bs.all id)) | none => none
  | _ => none
def anyD : List D → Option D
  | [.lst xs] => match bools xs with | some bs => some (.bl (bs.any id)) | none => none
  | _ => none
def tupD : List D → Option D
  | [.lst xs] => some (.tup xs)
  | [.tup xs] => some (.tup xs)
  | [.str s] => some (.tup (s.cps.toList.map fun c => .str ⟨#[c]⟩))
  | _ => none
def lstD : List D → Option D
  | [.lst xs] => some (.lst xs)
  | [.tup xs] => some (.lst xs)
  | _ => none
def intD : List D → Option D
  | [.int i] => some (.int i)
  | [.bl b] => some (.int (if b = true then 1 else 0))
  | _ => none
def strD : List D → Option D
  | [.int i] => if i.natAbs.log2 < 1920 then some (.str (toString i)) else none
  | [.str a] => some (.str a)
  | _ => none
def bfD (f : Bf) : List D → Option D := match f with
  | .len => lenD
  | .abs => absD
  | .max2 => maxD
  | .min2 => minD
  | .divmod => dmD
  | .all => allD
  | .any => anyD
  | .tupleOf => tupD
  | .listOf => lstD
  | .intOf => intD
  | .reprOf => reprD
  | .sortedOf => srtD
  | .strOf => strD
inductive Mf where
  | join | upper | append | get | pop | count | index | split | remove
def strsD : List D → Option (List Str)
  | [] => some []
  | .str b :: xs => match strsD xs with | some bs => some (b :: bs) | none => none
  | _ :: _ => none
def joinD : D → List D → Option D
  | .str a, [.lst xs] => match strsD xs with
    | some ys => if (ys.map (·.length)).sum + ys.length * a.length ≤ 16777216 then some (.str (Txt.join a ys)) else none
    | none => none
  | _, _ => none
def upperD : D → List D → Option D
  | .str a, [] => if a.length ≤ 1000000 ∧ (Txt.upper a).length ≤ sizeLine ∧ PyData.strOk (Txt.upper a) = true then some (.str (Txt.upper a)) else none
  | _, _ => none
def countD : D → List D → Option D
  | .lst xs, [y] => if (flatD y && xs.all flatD) = true then some (.int (xs.countP (fun d => eqD d y) : Nat)) else none
  | _, _ => none
def indexD : D → List D → Option D
  | .lst xs, [y] => if (flatD y && xs.all flatD) = true then (match xs.findIdx? (fun d => eqD d y) with | some j => some (.int (j : Nat)) | none => none) else none
  | _, _ => none
def splitD : D → List D → Option D
  | .str a, [.str b] => if (b.length == 0) = false ∧ a.length + 2 ≤ sizeLine ∧ (Txt.split a b).length ≤ sizeLine ∧ ((Txt.split a b).all fun z => decide (z.length ≤ sizeLine) && PyData.strOk z) = true then some (.lst ((Txt.split a b).map D.str)) else none
  | _, _ => none
def idxD : D → D → Option D
  | .lst xs, .int i => atI xs i
  | .tup xs, .int i => atI xs i
  | .str s, .int i => match atI s.cps.toList i with | some c => some (.str ⟨#[c]⟩) | none => none
  | .dct ks xs, y => (match keyOf y with | some k => dget ks xs k | none => none)
  | _, _ => none
def cutD (xs : List D) (lo hi : Option Int) : List D := (xs.drop (HT.sIx xs.length 0 lo)).take (HT.sIx xs.length xs.length hi - HT.sIx xs.length 0 lo)
def slcD : D → Option Int → Option Int → Option D
  | .str s, lo, hi => some (.str (cutS s lo hi))
  | .lst xs, lo, hi => some (.lst (cutD xs lo hi))
  | .tup xs, lo, hi => some (.tup (cutD xs lo hi))
  | _, _, _ => none
def revD : D → Option D
  | .tup xs => some (.tup xs.reverse)
  | _ => none
/-- the items that are walked -/
def itemsD : D → Option (List D)
  | .lst xs => some xs
  | .tup xs => some xs
  | .str s => some (s.cps.toList.map fun c => .str ⟨#[c]⟩)
  | _ => none

/-! alike to the last bit -/
mutual
def sameD : D → D → Bool
  | .non, .non => true
  | .bl a, .bl b => a == b
  | .int a, .int b => decide (a = b)
  | .str a, .str b => decide (a = b)
  | .tup a, .tup b => sameDs a b
  | .lst a, .lst b => sameDs a b
  | .dct a c, .dct b d => decide (a = b) && sameDs c d
  | _, _ => false
def sameDs : List D → List D → Bool
  | [], [] => true
  | x :: xs, y :: ys => sameD x y && sameDs xs ys
  | _, _ => false
end
mutual
theorem sameD_eq : ∀ a b : D, sameD a b = true → a = b
  | .non, b, h => by cases b <;> simp [sameD] at h ⊢
  | .bl a, b, h => by cases b <;> simp [sameD] at h ⊢; exact h
  | .int a, b, h => by cases b <;> simp [sameD] at h ⊢; exact h
  | .str a, b, h => by cases b <;> simp [sameD] at h ⊢; exact h
  | .tup a, b, h => by cases b <;> simp [sameD] at h ⊢; exact sameDs_eq _ _ h
  | .lst a, b, h => by cases b <;> simp [sameD] at h ⊢; exact sameDs_eq _ _ h
  | .dct a c, b, h => by cases b <;> simp [sameD] at h ⊢; exact ⟨h.1, sameDs_eq _ _ h.2⟩
theorem sameDs_eq : ∀ a b : List D, sameDs a b = true → a = b
  | [], b, h => by cases b <;> simp [sameDs] at h ⊢
  | x :: xs, b, h => by
    cases b with
    | nil => simp [sameDs] at h
    | cons y ys =>
      simp only [sameDs, Bool.and_eq_true] at h
      rw [sameD_eq _ _ h.1, sameDs_eq _ _ h.2]
end
mutual
theorem sameD_refl : ∀ a : D, sameD a a = true
  | .non => by simp [sameD]
  | .bl a => by simp [sameD]
  | .int a => by simp [sameD]
  | .str a => by simp [sameD]
  | .tup a => by simp only [sameD]; exact sameDs_refl a
  | .lst a => by simp only [sameD]; exact sameDs_refl a
  | .dct a c => by simp only [sameD, decide_true, Bool.true_and]; exact sameDs_refl c
theorem sameDs_refl : ∀ a : List D, sameDs a a = true
  | [] => by simp [sameDs]
  | x :: xs => by simp only [sameDs, sameD_refl x, sameDs_refl xs, Bool.and_self]
end
/-- what is walked: the items, and the changeable lists that must stay meanwhile -/
structure Wl where
  xs : List D
  pins : List (Nat × List D)
def pinOk (ps : List (Nat × List D)) (st : Sto) : Bool := ps.all fun p => match st[p.1]? with | some (.lst ys) => sameDs ys p.2 | _ => false
/-- the items in pairs with their numbers -/
def enumD : Nat → List D → List D
  | _, [] => []
  | k, x :: xs => .tup [.int k, x] :: enumD (k + 1) xs
theorem enumD_len : ∀ (k : Nat) (xs : List D), (enumD k xs).length = xs.length
  | _, [] => rfl
  | k, x :: xs => by simp [enumD, enumD_len (k + 1) xs]
theorem enumD_get : ∀ (k : Nat) (xs : List D) (i : Nat) (d : D), (enumD k xs)[i]? = some d → ∃ x, xs[i]? = some x ∧ d = .tup [.int ((k + i : Nat) : Int), x]
  | _, [], _, _, h => by simp [enumD] at h
  | k, x :: xs, 0, d, h => by
    simp only [enumD, List.getElem?_cons_zero, Option.some.injEq] at h
    exact ⟨x, rfl, by rw [← h, Nat.add_zero]⟩
  | k, x :: xs, i + 1, d, h => by
    simp only [enumD, List.getElem?_cons_succ] at h
    obtain ⟨y, h1, h2⟩ := enumD_get (k + 1) xs i d h
    exact ⟨y, by simpa using h1, by rw [h2]; congr 3; congr 1; omega⟩

/-- the rows of a zip -/
def zipD : List D → List D → List D
  | x :: xs, y :: ys => .tup [x, y] :: zipD xs ys
  | _, _ => []
theorem zipD_len : ∀ (xs ys : List D), (zipD xs ys).length = min xs.length ys.length
  | [], _ => by simp [zipD]
  | _ :: _, [] => by simp [zipD]
  | x :: xs, y :: ys => by simp only [zipD, List.length_cons, zipD_len xs ys]; omega
theorem zipD_get : ∀ (xs ys : List D) (i : Nat) (d : D), (zipD xs ys)[i]? = some d → ∃ x y, xs[i]? = some x ∧ ys[i]? = some y ∧ d = .tup [x, y]
  | [], _, i, d, h => by simp [zipD] at h
  | _ :: _, [], i, d, h => by simp [zipD] at h
  | x :: xs, y :: ys, 0, d, h => by simp only [zipD, List.getElem?_cons_zero, Option.some.injEq] at h; exact ⟨x, y, rfl, rfl, h.symm⟩
  | x :: xs, y :: ys, i + 1, d, h => by simp only [zipD, List.getElem?_cons_succ] at h ⊢; exact zipD_get xs ys i d h
/-! ### the text, with its names resolved -/
mutual
inductive E where
  | var (i : Nat) | con (d : D) | bin (op : Operator) (a b : E) | neg (a : E) | not (a : E) | and (a b : E) | or (a b : E)
  | cmp (op : CmpOp) (a b : E) | chain (p q : CmpOp) (a b c : E) | ite (c a b : E)
  | call (f : Nat) (as ks : Es) (ord : List (Nat ⊕ D)) | blt (f : Bf) (as : Es) | meth (m : Mf) (o : E) (as : Es)
  | tup (as : Es) | lst (as : Es) | dct0 | dcd (as : Es) | idx (a i : E) | slc (a : E) (lo hi : Eo)
  | isi (a : E) (t : String) | rev (a : E) | srtc (elt : E) (tg : Tg) (it : Ir) (ifs : Es) (own : List Nat) | tin (neg : Bool) (t : List (Str × D)) (a : E) | tget (t : List (Str × D)) (a : E) | dnew (t : Bool) | dget (o k : E) | din (neg : Bool) (k o : E) | dkeys (srt : Bool) (o : E) | lock (i : Nat) (e : E) | setl (srt : Bool) (a : E) | nope | new (e : E) | lc (elt : E) (tg : Tg) (it : Ir) (ifs : Es) (own : List Nat)
  | lrep (a b : E) | xis (a : E) (ms : List (Str × Bool)) | xfld (a : E) (f : Str) (ms : List Str)
inductive Es where
  | nil | cons (a : E) (r : Es)
inductive Eo where
  | none | some (a : E)
inductive Tg where
  | name (i : Nat) | tup (ts : Tgs) | sub (o i : E) | star (is : List Nat) (j : Nat) (nw : Bool)
inductive Tgs where
  | nil | cons (t : Tg) (r : Tgs)
inductive Ir where
  | val (e : E) | range1 (e : E) | enum (e : E) | zip (q : Bool) (as : Es) | keys (i : Nat)
end
mutual
inductive S where
  | asg (t : Tg) (e : E) | expr (e : E) | ret (e : E) | iff (c : E) (a b : Ss) | for_ (t : Tg) (it : Ir) (b : Ss) | aug (i : Nat) (op : Operator) (e : E) | pass | nope | while_ (c : E) (b : Ss) | par (is : List Nat) (as : Es)
  | rais (c : Str) (fs : List Str) (as : Es) | try_ (b : Ss) (hs : Hs)
inductive Ss where
  | nil | cons (s : S) (r : Ss)
/-- the clauses: which classes, the name's slot, the suite -/
inductive Hs where
  | nil | cons (ms : List (List (Str × Bool))) (i : Option Nat) (b : Ss) (r : Hs)
end

def der (st : Sto) : Vv → Option D
  | .d x => some x
  | .ref n => match st[n]? with | some (.lst xs) => some (.lst xs) | _ => none
  | .exn _ => none
def ders (st : Sto) : List Vv → Option (List D)
  | [] => some []
  | x :: xs => match der st x, ders st xs with | some a, some as => some (a :: as) | _, _ => none
def pures : List Vv → Option (List D)
  | [] => some []
  | .d x :: xs => match pures xs with | some as => some (x :: as) | none => none
  | .ref _ :: _ => none
  | .exn _ :: _ => none
def give (o : Option D) (st : Sto) : R Vv := match o with | some z => .ok (.d z) st | none => .stuck
def op2 (f : D → D → Option D) (x y : Vv) (st : Sto) : R Vv := match der st x, der st y with | some a, some b => give (f a b) st | _, _ => .stuck
def op1 (f : D → Option D) (x : Vv) (st : Sto) : R Vv := match der st x with | some a => give (f a) st | _ => .stuck
def opn (f : List D → Option D) (xs : List Vv) (st : Sto) : R Vv := match ders st xs with | some as => give (f as) st | none => .stuck
def cmpV (op : CmpOp) (x y : Vv) (st : Sto) : R Vv := op2 (fun a b => match cmpD op a b with | some k => some (.bl k) | none => none) x y st
def truV (x : Vv) (st : Sto) : R Bool := match der st x with | some a => (match truD a with | some k => .ok k st | none => .stuck) | none => .stuck
/-- no refusal here -/
def R.calm {α : Type} : R α → R α
  | .exc _ _ => .stuck
  | r => r
abbrev Fs := Nat → List Vv → Sto → R Vv
/-- the arguments in the parameters' order, defaults among them -/
def arrD : List (Nat ⊕ D) → List Vv → Option (List Vv)
  | [], _ => some []
  | .inl i :: r, xs => match xs[i]?, arrD r xs with | some x, some ys => some (x :: ys) | _, _ => none
  | .inr d :: r, xs => match arrD r xs with | some ys => some (.d d :: ys) | none => none
def wipeE (en : En) : List Nat → En
  | [] => en
  | v :: vs => (wipeE en vs).set v none
/-! dicts that are changed: rows of keys and data -/
section
variable {κ : Type} [DecidableEq κ]
def getA (kvs : List (κ × D)) (k : κ) : Option D := (kvs.find? fun p => decide (p.1 = k)).map (·.2)
def putA (kvs : List (κ × D)) (k : κ) (x : D) : List (κ × D) := if (kvs.any fun p => decide (p.1 = k)) = true then kvs.map (fun p => if p.1 = k then (p.1, x) else p) else kvs ++ [(k, x)]
def dropA (kvs : List (κ × D)) (k : κ) : List (κ × D) := kvs.filter fun p => decide (p.1 ≠ k)
end
def pD (p : Str × Str) : D := .tup [.str p.1, .str p.2]
def kyT : D → Option (Str × Str)
  | .tup [.str a, .str b] => some (a, b)
  | _ => none
def kyS : D → Option Str
  | .str a => some a
  | _ => none
def isDct (st : Sto) : Vv → Bool
  | .ref n => match st[n]? with | some o => o.isD && o.free | none => false
  | _ => false
/-- what a dict holds at a key -/
def dlookO : MO → D → Option (Option D)
  | .dT _ kvs, y => (match kyT y with | some k => some (getA kvs k) | none => none)
  | .dK _ kvs, y => (match kyS y with | some k => some (getA kvs k) | none => none)
  | _, _ => none
def dlook (o y : Vv) (st : Sto) : Option (Option D) := match o, y with
  | .ref n, .d y => (match st[n]? with | some ob => dlookO ob y | none => none)
  | _, _ => none
def kDget (o y : Vv) (st : Sto) : R Vv := match dlook o y st with | some (some d) => .ok (.d d) st | _ => .stuck
def kDin (neg : Bool) (y o : Vv) (st : Sto) : R Vv := match dlook o y st with | some r => .ok (.d (.bl (if neg = true then !r.isSome else r.isSome))) st | none => .stuck
/-- d.get(k), d.get(k, x) -/
def getM (o : Vv) (vs : List Vv) (st : Sto) : R Vv := match vs with
  | [y] => (match dlook o y st with | some (some d) => .ok (.d d) st | some none => .ok (.d .non) st | none => .stuck)
  | [y, x] => (match dlook o y st with | some (some d) => .ok (.d d) st | some none => .ok x st | none => .stuck)
  | _ => .stuck
/-- the dict with a row taken out -/
def dpopO : MO → D → Option (D × MO)
  | .dT false kvs, y => (match kyT y with | some k => (match getA kvs k with | some d => some (d, .dT false (dropA kvs k)) | none => none) | none => none)
  | .dK false kvs, y => (match kyS y with | some k => (match getA kvs k with | some d => some (d, .dK false (dropA kvs k)) | none => none) | none => none)
  | _, _ => none
def popM (o : Vv) (vs : List Vv) (st : Sto) : R Vv := match o, vs with
  | .ref n, [.d y] => (match st[n]? with | some ob => (match dpopO ob y with | some (d, ob') => .ok (.d d) (st.set n ob') | none => .stuck) | none => .stuck)
  | _, _ => .stuck
/-- .. put in -/
def dputO : MO → D → D → Option MO
  | .dT false kvs, y, x => (match kyT y with | some k => if kvs.length < 100000 then some (.dT false (putA kvs k x)) else none | none => none)
  | .dK false kvs, y, x => (match kyS y with | some k => if kvs.length < 100000 then some (.dK false (putA kvs k x)) else none | none => none)
  | _, _, _ => none
def keysO : MO → Option (List D)
  | .dT _ kvs => some (kvs.map fun p => pD p.1)
  | .dK _ kvs => some (kvs.map fun p => .str p.1)
  | _ => none
/-- list(d), sorted(d) -/
def kDkeys (srt : Bool) (o : Vv) (st : Sto) : R Vv := match o with
  | .ref n => (match st[n]? with
    | some (.dT _ kvs) => if kvs.length ≤ 100000 then (if srt = true then give (srtD [.lst (kvs.map fun p => pD p.1)]) st else .ok (.d (.lst (kvs.map fun p => pD p.1))) st) else .stuck
    | _ => .stuck)
  | _ => .stuck
/-- sorted(set(xs)), len(set(xs)), xs texts -/
def setlD (srt : Bool) : D → Option D
  | .lst xs => (match strsD xs with
    | some ss => if ss.length < 4000 then (if srt = true then some (.lst ((sortS (setOf ss)).map D.str)) else some (.int ((setOf ss).length : Nat))) else none
    | none => none)
  | _ => none
def newD (t : Bool) (st : Sto) : R Vv := .ok (.ref st.length) (st ++ [if t = true then .dT false [] else .dK false []])
/-- the dict in slot i is locked meanwhile -/
def lockE (i : Nat) (f : En → Sto → R Vv) (en : En) (st : Sto) : R Vv := match en[i]? with
  | some (some (.ref n)) => (match st[n]? with
    | some o => if (o.isD && o.free) = true then ((f en (st.set n (o.lk true))).calm.bind fun v st => .ok v (st.set n (o.lk false))) else .stuck
    | none => .stuck)
  | _ => .stuck
def kKeys (x : Option (Option Vv)) (st : Sto) : R Wl := match x with
  | some (some (.ref n)) => (match st[n]? with
    | some (.dT true kvs) => .ok ⟨kvs.map fun p => pD p.1, []⟩ st
    | some (.dK true kvs) => .ok ⟨kvs.map fun p => .str p.1, []⟩ st
    | _ => .stuck)
  | _ => .stuck
/-- o[i] = v: o a changeable list, a dict -/
def putV (o i v : Vv) (st : Sto) : R Unit := match o, i, v with
  | .ref n, .d (.int k), .d x => match st[n]? with
    | some (.lst xs) => (match ixN xs.length k with | some j => .ok () (st.set n (.lst (xs.set j x))) | none => .stuck)
    | _ => .stuck
  | .ref n, .d y, .d x => (match st[n]? with | some ob => (match dputO ob y x with | some ob' => .ok () (st.set n ob') | none => .stuck) | none => .stuck)
  | _, _, _ => .stuck
def appV (o : Vv) (vs : List Vv) (st : Sto) : R Vv := match o, vs with
  | .ref n, [.d x] => match st[n]? with
    | some (.lst xs) => if xs.length < sizeLine then .ok (.d .non) (st.set n (.lst (xs ++ [x]))) else .stuck
    | _ => .stuck
  | _, _ => .stuck
def remV (o : Vv) (vs : List Vv) (st : Sto) : R Vv := match o, vs with
  | .ref n, [.d y] => match st[n]? with
    | some (.lst xs) => if (flatD y && xs.all flatD) = true then (match xs.findIdx? (fun d => eqD d y) with | some j => .ok (.d .non) (st.set n (.lst (xs.eraseIdx j))) | none => .stuck) else .stuck
    | _ => .stuck
  | _, _ => .stuck
def opm (f : D → List D → Option D) (x : Vv) (vs : List Vv) (st : Sto) : R Vv := match der st x, ders st vs with | some a, some bs => give (f a bs) st | _, _ => .stuck
/-- the receiver of a method -/
def isTxt : Vv → Bool
  | .d (.str _) => true
  | _ => false
def isLst (st : Sto) : Vv → Bool
  | .ref n => match st[n]? with | some (.lst _) => true | _ => false
  | .d (.lst _) => true
  | _ => false
def recv (m : Mf) (x : Vv) (st : Sto) : Bool := match m with
  | .join => isTxt x
  | .upper => isTxt x
  | .append => isLst st x
  | .get => isDct st x
  | .pop => isDct st x
  | .count => isLst st x
  | .index => isLst st x
  | .split => isTxt x
  | .remove => isLst st x
def doM (m : Mf) (x : Vv) (vs : List Vv) (st : Sto) : R Vv := match m with
  | .join => opm joinD x vs st
  | .upper => opm upperD x vs st
  | .append => appV x vs st
  | .get => getM x vs st
  | .pop => popM x vs st
  | .count => opm countD x vs st
  | .index => opm indexD x vs st
  | .split => opm splitD x vs st
  | .remove => remV x vs st
/-- new: what was laid by itself is kept as a changeable object -/
def newV (v : Vv) (st : Sto) : R Vv := match v with
  | .d (.lst xs) => .ok (.ref st.length) (st ++ [.lst xs])
  | _ => .stuck
def kIv (x : Vv) (st : Sto) : R Wl := match x with
  | .d d => (match itemsD d with | some xs => .ok ⟨xs, []⟩ st | none => .stuck)
  | .ref n => (match st[n]? with | some (.lst xs) => .ok ⟨xs, [(n, xs)]⟩ st | _ => .stuck)
  | .exn _ => .stuck
def kIr (x : Vv) (st : Sto) : R Wl := match x with
  | .d (.int n) => if -(2 ^ 62) ≤ n ∧ n < 2 ^ 62 then .ok ⟨(List.range n.toNat).map fun (i : Nat) => D.int i, []⟩ st else .stuck
  | _ => .stuck
def kEn (x : Vv) (st : Sto) : R Wl := match x with
  | .d (.lst xs) => .ok ⟨enumD 0 xs, []⟩ st
  | .d (.tup xs) => .ok ⟨enumD 0 xs, []⟩ st
  | .ref n => (match st[n]? with | some (.lst xs) => .ok ⟨enumD 0 xs, [(n, xs)]⟩ st | _ => .stuck)
  | _ => .stuck
/-- a row that is walked in a zip: its items, the changeable list that must stay -/
def rowV (x : Vv) (st : Sto) : Option (List D × List (Nat × List D)) := match x with
  | .d (.lst xs) => some (xs, [])
  | .d (.tup xs) => some (xs, [])
  | .ref n => (match st[n]? with | some (.lst xs) => some (xs, [(n, xs)]) | _ => none)
  | _ => none
/-- .. or a text -/
def rowT (x : Vv) (st : Sto) : Option (List D × List (Nat × List D)) := match x with
  | .d (.str s) => some (s.cps.toList.map fun c => .str ⟨#[c]⟩, [])
  | x => rowV x st
def kZip (q : Bool) (vs : List Vv) (st : Sto) : R Wl := match vs with
  | [x, y] => (match rowT x st, rowT y st with
    | some (xs, ps), some (ys, rs) => if q = true → xs.length = ys.length then .ok ⟨zipD xs ys, ps ++ rs⟩ st else .stuck
    | _, _ => .stuck)
  | _ => .stuck
/-- several names at once -/
def setAll : List Nat → List Vv → En → Option En
  | [], [], en => some en
  | i :: is, v :: vs, en => setAll is vs (en.set i (some v))
  | _, _, _ => none
/-- {k: v, ..} -/
def mkDct : List D → Option (List Key × List D)
  | [] => some ([], [])
  | k :: v :: r => match keyOf k, mkDct r with
    | some k, some (ks, vs) => if (ks.any fun j => decide (j = k)) = true then none else some (k :: ks, v :: vs)
    | _, _ => none
  | _ => none
def kDcd (vs : List Vv) (st : Sto) : R Vv := match pures vs with
  | some ds => (match mkDct ds with | some (ks, xs) => if ks.length ≤ 15 then .ok (.d (.dct ks xs)) st else .stuck | none => .stuck)
  | none => .stuck
/-- x in T, T[x], T a table of the module by texts -/
def kTin (neg : Bool) (t : List (Str × D)) (x : Vv) (st : Sto) : R Vv := match x with
  | .d (.str z) => .ok (.d (.bl (if neg = true then !(t.lookup z).isSome else (t.lookup z).isSome))) st
  | _ => .stuck
def kTget (t : List (Str × D)) (x : Vv) (st : Sto) : R Vv := match x with
  | .d (.str z) => give (t.lookup z) st
  | _ => .stuck
/-- a, b, *c = v -/
def starV (is : List Nat) (j : Nat) (nw : Bool) (v : Vv) (en : En) (st : Sto) : R En := match rowV v st with
  | some (xs, _) => if is.length ≤ xs.length then (match setAll is ((xs.take is.length).map Vv.d) en with
      | some en' => if nw = true then .ok (en'.set j (some (.ref st.length))) (st ++ [.lst (xs.drop is.length)]) else .ok (en'.set j (some (.d (.lst (xs.drop is.length))))) st
      | none => .stuck) else .stuck
  | none => .stuck
/-- a new list, so many times -/
def lrepV (x y : Vv) (st : Sto) : R Vv := match x, y with
  | .d (.lst xs), .d (.int k) => if -1000 ≤ k ∧ k ≤ 1000 ∧ xs.length ≤ 1000 then .ok (.d (.lst (List.replicate k.toNat xs).flatten)) st else .stuck
  | _, _ => .stuck
/-- isinstance of a refusal, its field -/
def kXis (ms : List (Str × Bool)) (x : Vv) (st : Sto) : R Vv := match x with
  | .exn z => (match ms.lookup z.cls with | some b => .ok (.d (.bl b)) st | none => .stuck)
  | _ => .stuck
def kXfld (f : Str) (ms : List Str) (x : Vv) (st : Sto) : R Vv := match x with
  | .exn z => if ms.contains z.cls = true then give (z.fs.lookup f) st else .stuck
  | _ => .stuck
/-- the fields of a new refusal, as they lie in its dict -/
def mkX {α : Type} : List Str → List α → Option (List (Str × α))
  | [f], [x] => some [(f, x)]
  | [f, g], [x, y] => some [(g, y), (f, x)]
  | _, _ => none
/-- whether a clause takes a class -/
def anyX : List (List (Str × Bool)) → Str → Option Bool
  | [], _ => some false
  | ms :: r, c => match ms.lookup c, anyX r c with | some b, some d => some (b || d) | _, _ => none
/-- a comprehension's turns -/
def lcLoop (ps : List (Nat × List D)) (g : D → En → Sto → R En) (t : En → Sto → R Bool) (e : En → Sto → R Vv) (en : En) : List D → List D → Sto → R Vv
  | [], acc, st => if pinOk ps st then .ok (.d (.lst acc)) st else .stuck
  | x :: xs, acc, st => if pinOk ps st then (g x en st).bind fun en2 st => (t en2 st).bind fun k st =>
      if k then (e en2 st).bind fun y st => (match y with | .d z => lcLoop ps g t e en xs (acc ++ [z]) st | _ => .stuck) else lcLoop ps g t e en xs acc st
    else .stuck
/-- a set comprehension's turns: the texts met so far -/
def scLoop (ps : List (Nat × List D)) (g : D → En → Sto → R En) (t : En → Sto → R Bool) (e : En → Sto → R Vv) (en : En) : List D → List Str → Sto → R (List Str)
  | [], acc, st => if pinOk ps st then .ok acc st else .stuck
  | x :: xs, acc, st => if pinOk ps st then (g x en st).bind fun en2 st => (t en2 st).bind fun k st =>
      if k then (e en2 st).bind fun y st => (match y with | .d (.str z) => if acc.length < 4000 then scLoop ps g t e en xs (addK acc z) st else .stuck | _ => .stuck) else scLoop ps g t e en xs acc st
    else .stuck
mutual
def evE (F : Fs) : E → En → Sto → R Vv
  | .var i, en, st => match en[i]? with | some (some v) => .ok v st | _ => .stuck
  | .con d, _, st => .ok (.d d) st
  | .bin op a b, en, st => (evE F a en st).bind fun x st => (evE F b en st).bind fun y st => op2 (binD op) x y st
  | .neg a, en, st => (evE F a en st).bind fun x st => match x with | .d (.int i) => .ok (.d (.int (-i))) st | _ => .stuck
  | .not a, en, st => (evE F a en st).bind fun x st => (truV x st).bind fun k st => .ok (.d (.bl (!k))) st
  | .and a b, en, st => (evE F a en st).bind fun x st => (truV x st).bind fun k st => if k then evE F b en st else .ok x st
  | .or a b, en, st => (evE F a en st).bind fun x st => (truV x st).bind fun k st => if k then .ok x st else evE F b en st
  | .cmp op a b, en, st => (evE F a en st).bind fun x st => (evE F b en st).bind fun y st => cmpV op x y st
  | .chain p q a b c, en, st => (evE F a en st).bind fun x st => (evE F b en st).bind fun y st => (cmpV p x y st).bind fun k st =>
      match k with
      | .d (.bl true) => (evE F c en st).bind fun z st => cmpV q y z st
      | .d (.bl false) => .ok (.d (.bl false)) st
      | _ => .stuck
  | .ite c a b, en, st => (evE F c en st).bind fun x st => (truV x st).bind fun k st => if k then evE F a en st else evE F b en st
  | .call f as ks ord, en, st => (evEs F as en st).bind fun vs st => (evEs F ks en st).bind fun ws st => match arrD ord (vs ++ ws) with | some xs => F f xs st | none => .stuck
  | .blt f as, en, st => (evEs F as en st).bind fun vs st => opn (bfD f) vs st
  | .meth m o as, en, st => (evE F o en st).bind fun x st => if recv m x st then (evEs F as en st).bind fun vs st => doM m x vs st else .stuck
  | .tup as, en, st => (evEs F as en st).bind fun vs st => match pures vs with | some xs => if xs.length ≤ sizeLine then .ok (.d (.tup xs)) st else .stuck | none => .stuck
  | .lst as, en, st => (evEs F as en st).bind fun vs st => match pures vs with | some xs => if xs.length ≤ sizeLine then .ok (.d (.lst xs)) st else .stuck | none => .stuck
  | .dct0, _, st => .ok (.d (.dct [] [])) st
  | .dcd as, en, st => (evEs F as en st).calm.bind kDcd
  | .idx a i, en, st => (evE F a en st).bind fun x st => (evE F i en st).bind fun y st => op2 idxD x y st
  | .slc a lo hi, en, st => (evE F a en st).bind fun x st => (evO F lo en st).bind fun l st => (evO F hi en st).bind fun h st => op1 (fun d => slcD d l h) x st
  | .isi a t, en, st => (evE F a en st).bind fun x st => op1 (fun d => some (isiD t d)) x st
  | .srtc elt tg it ifs own, en, st => (evI F it en st).bind fun w st => ((scLoop w.pins (fun x en st => evG F tg (.d x) en st) (fun en st => evT F ifs en st) (fun en st => evE F elt en st) (wipeE en own) w.xs [] st).calm).bind fun L st => .ok (.d (.lst ((sortS L).map D.str))) st
  | .rev a, en, st => (evE F a en st).bind fun x st => op1 revD x st
  | .tin neg t a, en, st => (evE F a en st).bind (kTin neg t)
  | .tget t a, en, st => (evE F a en st).bind (kTget t)
  | .dnew t, _, st => newD t st
  | .dget o k, en, st => (evE F o en st).bind fun x st => (evE F k en st).bind fun y st => kDget x y st
  | .din neg k o, en, st => (evE F k en st).bind fun y st => (evE F o en st).bind fun x st => kDin neg y x st
  | .dkeys srt o, en, st => (evE F o en st).bind (kDkeys srt)
  | .lock i e, en, st => lockE i (fun en st => evE F e en st) en st
  | .setl srt a, en, st => (evE F a en st).bind fun x st => op1 (setlD srt) x st
  | .lrep a b, en, st => (evE F a en st).bind fun x st => (evE F b en st).bind fun y st => lrepV x y st
  | .xis a ms, en, st => (evE F a en st).bind (kXis ms)
  | .xfld a f ms, en, st => (evE F a en st).bind (kXfld f ms)
  | .nope, _, _ => .stuck
  | .new e, en, st => (evE F e en st).bind newV
  | .lc elt tg it ifs own, en, st => (evI F it en st).bind fun w st => if w.xs.length ≤ sizeLine then (lcLoop w.pins (fun x en st => evG F tg (.d x) en st) (fun en st => evT F ifs en st) (fun en st => evE F elt en st) (wipeE en own) w.xs [] st).calm else .stuck
def evEs (F : Fs) : Es → En → Sto → R (List Vv)
  | .nil, _, st => .ok [] st
  | .cons a r, en, st => (evE F a en st).bind fun x st => (evEs F r en st).bind fun xs st => .ok (x :: xs) st
def evT (F : Fs) : Es → En → Sto → R Bool
  | .nil, _, st => .ok true st
  | .cons a r, en, st => (evE F a en st).bind fun x st => (truV x st).bind fun k st => if k then evT F r en st else .ok false st
def evO (F : Fs) : Eo → En → Sto → R (Option Int)
  | .none, _, st => .ok none st
  | .some a, en, st => (evE F a en st).bind fun x st => match x with | .d (.int i) => .ok (some i) st | _ => .stuck
def evG (F : Fs) : Tg → Vv → En → Sto → R En
  | .name i, v, en, st => .ok (en.set i (some v)) st
  | .tup ts, v, en, st => match v with | .d (.tup xs) => evGs F ts xs en st | _ => .stuck
  | .star is j nw, v, en, st => starV is j nw v en st
  | .sub o i, v, en, st => (evE F o en st).bind fun x st => (evE F i en st).bind fun y st => (putV x y v st).bind fun _ st => .ok en st
def evGs (F : Fs) : Tgs → List D → En → Sto → R En
  | .nil, [], en, st => .ok en st
  | .cons t r, x :: xs, en, st => (evG F t (.d x) en st).bind fun en st => evGs F r xs en st
  | _, _, _, _ => .stuck
def evI (F : Fs) : Ir → En → Sto → R Wl
  | .keys i, en, st => kKeys en[i]? st
  | .enum e, en, st => (evE F e en st).bind kEn
  | .zip q as, en, st => (evEs F as en st).bind (kZip q)
  | .val e, en, st => (evE F e en st).bind kIv
  | .range1 e, en, st => (evE F e en st).bind kIr
end
inductive RS where
  | nx (en : En) (st : Sto) | rt (v : Vv) (st : Sto) | bk (en : En) (st : Sto) | ct (en : En) (st : Sto) | exc (x : Xn) (en : En) (st : Sto) | stuck
/-- an expression's end within a statement -/
def R.go {α : Type} (r : R α) (en : En) (f : α → Sto → RS) : RS := match r with
  | .ok a st => f a st
  | .exc x st => .exc x en st
  | .stuck => .stuck
def RS.seq (r : RS) (f : En → Sto → RS) : RS := match r with
  | .nx en st => f en st
  | r => r
/-- a loop's turn -/
def RS.turn (r : RS) (f : En → Sto → RS) : RS := match r with
  | .nx en st => f en st
  | .ct en st => f en st
  | .bk en st => .nx en st
  | r => r
def forLoop (ps : List (Nat × List D)) (g : D → En → Sto → R En) (b : En → Sto → RS) : List D → En → Sto → RS
  | [], en, st => if pinOk ps st then .nx en st else .stuck
  | x :: xs, en, st => if pinOk ps st then (g x en st).calm.go en fun en st => (b en st).turn fun en st => forLoop ps g b xs en st else .stuck
def whLoop (c : En → Sto → R Bool) (b : En → Sto → RS) : Nat → En → Sto → RS
  | 0, _, _ => .stuck
  | n + 1, en, st => (c en st).go en fun k st => if k then (b en st).turn fun en st => whLoop c b n en st else .nx en st
def WF : Nat := 1000000000
/-- no refusal leaves a suite; behind it the name is gone -/
def RS.out (i : Option Nat) : RS → RS
  | .nx en st => .nx (match i with | some i => en.set i none | none => en) st
  | .bk en st => .bk (match i with | some i => en.set i none | none => en) st
  | .ct en st => .ct (match i with | some i => en.set i none | none => en) st
  | .rt v st => .rt v st
  | .exc _ _ _ => .stuck
  | .stuck => .stuck
def kRais (c : Str) (fs : List Str) (en : En) (vs : List Vv) (st : Sto) : RS := match pures vs with
  | some xs => (match mkX fs xs with | some l => .exc ⟨c, l⟩ en st | none => .stuck)
  | none => .stuck
def RS.caught (h : Xn → En → Sto → RS) : RS → RS
  | .exc x en st => h x en st
  | r => r
def putO (i : Option Nat) (v : Vv) (en : En) : En := match i with | some i => en.set i (some v) | none => en
mutual
def evS (F : Fs) : S → En → Sto → RS
  | .asg t e, en, st => (evE F e en st).go en fun v st => (evG F t v en st).calm.go en fun en st => .nx en st
  | .expr e, en, st => (evE F e en st).go en fun _ st => .nx en st
  | .ret e, en, st => (evE F e en st).go en fun v st => .rt v st
  | .iff c a b, en, st => ((evE F c en st).bind truV).go en fun k st => if k then evSs F a en st else evSs F b en st
  | .for_ t it b, en, st => (evI F it en st).go en fun w st => forLoop w.pins (fun x en st => evG F t (.d x) en st) (fun en st => evSs F b en st) w.xs en st
  | .aug i op e, en, st => match en[i]? with
      | some (some x) => (evE F e en st).go en fun y st => (op2 (augD op) x y st).go en fun z st => .nx (en.set i (some z)) st
      | _ => .stuck
  | .pass, en, st => .nx en st
  | .nope, _, _ => .stuck
  | .while_ c b, en, st => whLoop (fun en st => (evE F c en st).bind truV) (fun en st => evSs F b en st) WF en st
  | .par is as, en, st => (evEs F as en st).go en fun vs st => match setAll is vs en with | some en => .nx en st | none => .stuck
  | .rais c fs as, en, st => (evEs F as en st).go en (kRais c fs en)
  | .try_ b hs, en, st => (evSs F b en st).caught fun x en st => evH F hs x en st
def evSs (F : Fs) : Ss → En → Sto → RS
  | .nil, en, st => .nx en st
  | .cons s r, en, st => (evS F s en st).seq fun en st => evSs F r en st
def evH (F : Fs) : Hs → Xn → En → Sto → RS
  | .nil, x, en, st => .exc x en st
  | .cons ms i b r, x, en, st => match anyX ms x.cls with
      | some true => (evSs F b (putO i (.exn x) en) st).out i
      | some false => evH F r x en st
      | none => .stuck
end
end TW
namespace TW
open PySem PySem.Spec PyProof.Rows L2
variable {X : Cx} {pins : List (Addr × Obj)} {σ : L2.St} {H : Hp} {s : Shared}

theorem toPyTs_len : ∀ xs : List D, (toPyTs xs).length = xs.length
  | [] => rfl
  | x :: xs => by simp only [toPyTs, List.length_cons, toPyTs_len xs]
theorem keys_read {P : Program} {w : World} {h : Heap} : ∀ {es : List DictEntry} {ws : List (Key × Value)} {ks : List Key} {vs : List V}, Pairs (mixKind P w) es ws → KV (ks.zip vs) ws → ks.length = vs.length → ReadsAll h (es.map (·.key)) (ks.map keyPy) [] := by
  intro es ws ks vs hp
  induction hp generalizing ks vs with
  | nil =>
    intro hk hl
    cases ks with
    | nil => exact .nil
    | cons k ks =>
      cases vs with
      | nil => simp at hl
      | cons v vs => cases hk
  | @cons e kv es kvs h1 h2 h3 ih =>
    intro hk hl
    cases ks with
    | nil => simp only [List.zip_nil_left] at hk; cases hk
    | cons k ks =>
      cases vs with
      | nil => simp at hl
      | cons v vs =>
        simp only [List.zip_cons_cons] at hk
        cases hk with
        | cons q r =>
          have i2 := ih r (by simpa using hl)
          have hki : keyIs k e.key = true := by
            have : (mixKind P w).is kv.1 e.key = true := h1
            rw [mixKind_is, ← q.1] at this
            exact this
          have hr : Reads h e.key (keyPy k) [] := by
            rcases keyIs_shape hki with ⟨i, t, rfl, e1⟩ | ⟨x, t, rfl, e1⟩
            · rw [e1]; exact Reads.int i t
            · rw [e1]; exact Reads.str x t
          exact ReadsAll.cons hr i2
theorem pairs_vals {P : Program} {w : World} : ∀ {es : List DictEntry} {ws : List (Key × Value)} {ks : List Key} {vs : List V}, Pairs (mixKind P w) es ws → KV (ks.zip vs) ws → ks.length = vs.length → Vals vs (es.map (·.val)) := by
  intro es ws ks vs hp
  induction hp generalizing ks vs with
  | nil =>
    intro hk hl
    cases vs with
    | nil => exact .nil
    | cons v vs =>
      cases ks with
      | nil => simp at hl
      | cons k ks => cases hk
  | @cons e kv es kvs h1 h2 h3 ih =>
    intro hk hl
    cases ks with
    | nil => simp only [List.zip_nil_left] at hk; cases hk
    | cons k ks =>
      cases vs with
      | nil => simp at hl
      | cons v vs =>
        simp only [List.zip_cons_cons] at hk
        cases hk with
        | cons q r =>
          have z : e.val = kv.2 := h2
          exact .cons (by show L2.RelV v e.val; rw [z]; exact q.2) (ih r (by simpa using hl))
mutual
theorem reads_of (I : Inv X pins σ H s) : ∀ (d : D) (v : V) (u : Value), RepD X.K H d v → RelV v u → ∃ as, Reads s.heap u (toPyT d) as ∧ (noL d = true → sysModules ∉ as)
  | .non, _, _, h, r => by
    simp only [RepD] at h; subst h; cases r
    exact ⟨_, by simp only [toPyT]; exact Reads.none, fun _ => List.not_mem_nil⟩
  | .bl b, _, _, h, r => by
    simp only [RepD] at h; subst h; cases r
    exact ⟨_, by simp only [toPyT]; exact Reads.bool b, fun _ => List.not_mem_nil⟩
  | .int i, _, _, h, r => by
    simp only [RepD] at h; subst h; obtain ⟨t, rfl⟩ := r
    exact ⟨_, by simp only [toPyT]; exact Reads.int i t, fun _ => List.not_mem_nil⟩
  | .str x, _, _, h, r => by
    simp only [RepD] at h; obtain ⟨rfl, _⟩ := h; obtain ⟨t, rfl⟩ := r
    exact ⟨_, by simp only [toPyT]; exact Reads.str x t, fun _ => List.not_mem_nil⟩
  | .tup xs, _, _, h, r => by
    simp only [RepD] at h
    obtain ⟨a, vs, rfl, hs, _, hr, _⟩ := h
    cases r
    obtain ⟨its, rv, ⟨o, ho, hc, n, hd⟩, _⟩ := I.tuple hs
    obtain ⟨as, k1, k2⟩ := readss_of I xs vs its hr rv
    exact ⟨as, by simp only [toPyT]; exact Reads.tuple ho hc hd k1, fun z => k2 (by simpa only [noL] using z)⟩
  | .lst xs, _, _, h, r => by
    simp only [RepD] at h
    obtain ⟨a, vs, rfl, hs, _, hr⟩ := h
    cases r
    obtain ⟨its, rv, ⟨o, n, ho, hc, _, hd⟩, _⟩ := I.list hs
    obtain ⟨as, k1, k2⟩ := readss_of I xs vs its hr rv
    exact ⟨_, by simp only [toPyT]; exact Reads.list ho hc hd k1, fun z => by simp [noL] at z⟩
  | .dct ks xs, _, _, h, r => by
    simp only [RepD] at h
    obtain ⟨a, vs, rfl, hs, hl, hr⟩ := h
    cases r
    obtain ⟨_, hsys, ws, hkv, o, es, ep, ho, hx, hd, _, hp, _⟩ := (show ObjOk X.prog X.w H s.heap a (.dK (ks.zip vs)) from I.hok a _ hs)
    obtain ⟨bs, k1, k2⟩ := readss_of I xs vs _ hr (pairs_vals hp hkv hl)
    have kk := keys_read (h := s.heap) hp hkv hl
    have hl2 : (ks.map keyPy).length = (toPyTs xs).length := by rw [List.length_map, toPyTs_len, hl, hr.length]
    refine ⟨a :: [] ++ bs, ?_, fun z hm => ?_⟩
    · simp only [toPyT]
      refine Reads.dict ho hx.1 hd ?_ ?_
      · rw [List.map_fst_zip (by omega)]; exact kk
      · rw [List.map_snd_zip (by omega)]; exact k1
    · rcases List.mem_cons.mp hm with e | e
      · rw [e] at hsys; simp at hsys
      · exact k2 (by simpa only [noL] using z) e
theorem readss_of (I : Inv X pins σ H s) : ∀ (ds : List D) (vs : List V) (us : List Value), RepDs X.K H ds vs → Vals vs us → ∃ as, ReadsAll s.heap us (toPyTs ds) as ∧ (noLs ds = true → sysModules ∉ as)
  | [], _, _, h, r => by
    simp only [RepDs] at h; subst h; cases r
    exact ⟨_, by simp only [toPyTs]; exact ReadsAll.nil, fun _ => List.not_mem_nil⟩
  | d :: ds, _, _, h, r => by
    obtain ⟨v, vs, rfl, h1, h2⟩ := h.uncons
    cases r with
    | cons r1 r2 =>
      obtain ⟨as, q1, q2⟩ := reads_of I d _ _ h1 r1
      obtain ⟨bs, q3, q4⟩ := readss_of I ds _ _ h2 r2
      refine ⟨_, by simp only [toPyTs]; exact ReadsAll.cons q1 q3, fun z hm => ?_⟩
      simp only [noLs, Bool.and_eq_true] at z
      rcases List.mem_append.mp hm with e | e
      · exact q2 z.1 e
      · exact q4 z.2 e
end
end TW
set_option maxHeartbeats 4000000
namespace TW
open PySem PySem.Spec PyProof.Rows L2
/-! ### a tuple so many times: once, or not at all -/
theorem tmul_one (l : Addr) (items : Array Value) (n : Nat) (dd : Option Addr) (sl : Array (Option Value)) (x : Int) (u : Tok) (c0 : (decide (x < -(2 ^ 63)) || decide (x ≥ 2 ^ 63)) = false) (c1 : (items.isEmpty || x == 1) = true) :
    Meets (Builtin.«tuple.__mul__» ⟨[.ref l, .int x u], []⟩) (fun _ R s => s.heap.get? l = some { cls := .type "tuple", dict := dd, data := .seq items n, slots := sl } ∧ R (.ok (.ret (.ref l))) s) :=
  .of_wp fun prog w A R s h => by
    obtain ⟨hp, g, d, tk, os⟩ := s
    obtain ⟨hl, h⟩ := h
    have f1 := AutoSeq1.idx_int
    wp_walk using wpAny_loadPart' hl
    refine wpAny_ite_false (decide_eq_false (by rw [c0]; exact Bool.false_ne_true)) ?_
    wp_walk using wpAny_loadPart' hl
    exact ⟨_, rfl, h⟩
theorem tmul_nil (l : Addr) (items : Array Value) (n : Nat) (dd : Option Addr) (sl : Array (Option Value)) (x : Int) (u : Tok) (c0 : (decide (x < -(2 ^ 63)) || decide (x ≥ 2 ^ 63)) = false) (c1 : (items.isEmpty || x == 1) = false) (c2 : (decide (x ≤ 0) || items.isEmpty) = true) :
    Meets (Builtin.«tuple.__mul__» ⟨[.ref l, .int x u], []⟩) (fun _ R s => s.heap.get? l = some { cls := .type "tuple", dict := dd, data := .seq items n, slots := sl } ∧
      R (.ok (.ret (.ref s.heap.objs.size))) { s with heap := s.heap.push { cls := .type "tuple", data := .seq #[] } }) :=
  .of_wp fun prog w A R s h => by
    obtain ⟨hp, g, d, tk, os⟩ := s
    obtain ⟨hl, h⟩ := h
    have f1 := AutoSeq1.idx_int
    wp_walk using wpAny_loadPart' hl
    refine wpAny_ite_false (decide_eq_false (by rw [c0]; exact Bool.false_ne_true)) ?_
    wp_walk using wpAny_loadPart' hl
    exact ⟨_, rfl, h⟩
def rTMul (K : PySem.W.Frag) : R2 := fun x y H Q => ∃ l k xs, x = .ref l ∧ y = .int k ∧ SqT K H l xs ∧ -1000 ≤ k ∧ k ≤ 1000 ∧ xs.length ≤ 1000 ∧ (xs = [] ∨ k = 1 → Q (.ref l) H) ∧ (xs ≠ [] → k ≠ 1 → ∀ p, H p = none → Q (.ref p) (upd H p (.tup (List.replicate k.toNat xs).flatten)))
theorem op_tmul {X : Cx} : OpR X (binaryOp .Mult) (rTMul X.K) := by
  intro pins s σ H x y v u Q I rx ry h
  obtain ⟨l, k, xs, rfl, rfl, hT, h0, h1, hz, q1, q2⟩ := h
  by_cases big : xs ≠ [] ∧ 2 ≤ k
  · exact op_repT pins s σ H _ _ v u Q I rx ry ⟨l, k, xs, rfl, rfl, hT, big.1, big.2, h1, hz, q2 big.1 (by omega)⟩
  cases rx
  obtain ⟨t, rfl⟩ := ry
  obtain ⟨its, r, ⟨⟨cls, dd, data, sl⟩, ho, hc, n, hd⟩, hs⟩ := I.tuple hT
  simp only at hc hd
  subst hc hd
  have hle : its.length = xs.length := r.length.symm
  have c0 : (decide (k < -(2 ^ 63)) || decide (k ≥ 2 ^ 63)) = false := by
    rw [decide_eq_false (by omega), decide_eq_false (by omega)] <;> rfl
  by_cases one : xs = [] ∨ k = 1
  · have c1 : (its.toArray.isEmpty || k == 1) = true := by
      rcases one with e | e
      · rw [e] at hle
        have : its = [] := List.eq_nil_of_length_eq_zero hle
        subst this; rfl
      · subst e; simp
    refine wpAny_binaryOp_repeat_ref (T := "tuple") (U := "int") (by decide) ⟨_, ho, rfl⟩ (fun s' => typeIs_int s' k t) noFill_tuple_mul F.fills_int_mul F.slot_int_rmul repeat_tuple F.slot_int_index.lookup
      (call_meets F.slot_int_rmul (typeIs_int s k t) F.entry_int_rmul (F.args_int_rmul_2 _ _) (int_rmul_tuple k t l its.toArray n dd sl)
        ⟨ho, rfl, ⟨_, ho, rfl⟩, call_meets F.slot_tuple_mul ⟨_, ho, rfl⟩ F.entry_tuple_mul (F.args_tuple_mul_2 _ _) (tmul_one l its.toArray n dd sl k t c0 c1) ⟨ho, ?_⟩⟩)
    exact ⟨.ref l, H, I, rfl, q1 one⟩
  · have hn : xs ≠ [] := fun e => one (.inl e)
    have hk : k ≤ 0 := by
      have : ¬ 2 ≤ k := fun e => big ⟨hn, e⟩
      have : k ≠ 1 := fun e => one (.inr e)
      omega
    have hi : its.toArray.isEmpty = false := by
      cases its with
      | nil => exact absurd (List.eq_nil_of_length_eq_zero hle.symm) hn
      | cons a b => rfl
    have c1 : (its.toArray.isEmpty || k == 1) = false := by
      rw [hi, Bool.false_or]; exact beq_eq_false_iff_ne.mpr (by omega)
    have c2 : (decide (k ≤ 0) || its.toArray.isEmpty) = true := by rw [decide_eq_true hk]; rfl
    refine wpAny_binaryOp_repeat_ref (T := "tuple") (U := "int") (by decide) ⟨_, ho, rfl⟩ (fun s' => typeIs_int s' k t) noFill_tuple_mul F.fills_int_mul F.slot_int_rmul repeat_tuple F.slot_int_index.lookup
      (call_meets F.slot_int_rmul (typeIs_int s k t) F.entry_int_rmul (F.args_int_rmul_2 _ _) (int_rmul_tuple k t l its.toArray n dd sl)
        ⟨ho, rfl, ⟨_, ho, rfl⟩, call_meets F.slot_tuple_mul ⟨_, ho, rfl⟩ F.entry_tuple_mul (F.args_tuple_mul_2 _ _) (tmul_nil l its.toArray n dd sl k t c0 c1 c2) ⟨ho, ?_⟩⟩)
    have e0 : (List.replicate k.toNat xs).flatten = [] := by rw [show k.toNat = 0 by omega]; rfl
    have q := q2 hn (fun e => one (.inr e))
    rw [e0] at q
    exact ⟨.ref s.heap.objs.size, _, I.laid (t' := s.toks) (o := .tup []) (fun b ob q => Heap.get?_push_of_some _ q) (Nat.le_refl _) ⟨Nat.zero_le _, _, .nil, IsTup.new _ _⟩, rfl, q _ (I.hok.fresh (Nat.le_refl _))⟩
end TW
namespace TW
open PySem PySem.Spec PyProof.Rows L2
variable {X : Cx}

/-! ### a value that is read -/
def RepR (K : PySem.W.Frag) (m : Mp) (H : Hp) : D → V → Prop
  | .lst xs, v => ∃ a vs, v = .ref a ∧ SqL K H a vs ∧ xs.length ≤ sizeLine ∧ RepDs K (hm m H) xs vs
  | d, v => RepD K (hm m H) d v
theorem RepD.r {K : PySem.W.Frag} {m : Mp} {H : Hp} {d : D} {v : V} (h : RepD K (hm m H) d v) : RepR K m H d v := by
  cases d with
  | lst xs => simp only [RepD] at h; obtain ⟨a, vs, e, q, l, z⟩ := h; exact ⟨a, vs, e, hm_same.seq q, l, z⟩
  | _ => exact h
theorem RepR.d {K : PySem.W.Frag} {m : Mp} {H : Hp} {d : D} {v : V} (h : RepR K m H d v) : RepD K H d v := by
  cases d with
  | lst xs => simp only [RepD]; obtain ⟨a, vs, e, q, l, z⟩ := h; exact ⟨a, vs, e, q, l, z.mono hm_same⟩
  | _ => exact RepD.mono (hm_same (m := m)) _ _ h
theorem der_rep {K : PySem.W.Frag} {m : Mp} {H : Hp} {st : Sto} {x : Vv} {v : V} {d : D} (r : Rel K m st H) (e : der st x = some d) (h : RepV K m H x v) : RepR K m H d v := by
  cases x with
  | d y => simp only [der, Option.some.injEq] at e; subst e; exact RepD.r h
  | ref n =>
    simp only [der] at e
    split at e
    · rename_i xs hx
      cases e
      obtain ⟨a, ha, rfl⟩ := h
      obtain ⟨u, hu, vs, rfl, q, l⟩ := r.get n _ a hx ha
      exact ⟨a, vs, rfl, .inl (.inl hu), l, q⟩
    · cases e
  | exn z => cases e
theorem ders_rep {K : PySem.W.Frag} {m : Mp} {H : Hp} {st : Sto} (r : Rel K m st H) : ∀ {xs : List Vv} {vs : List V} {ds : List D}, ders st xs = some ds → RepVs K m H xs vs → Paired (RepR K m H) ds vs
  | [], _, _, e, .nil => by simp only [ders, Option.some.injEq] at e; subst e; exact .nil
  | x :: xs, _, _, e, .cons h t => by
    simp only [ders] at e
    split at e
    · rename_i h1 h2
      cases e
      exact .cons (der_rep r h1 h) (ders_rep r h2 t)
    · cases e
/-- the end of an operation that gives data -/
def Giv (K : PySem.W.Frag) (m : Mp) (H : Hp) (st : Sto) (z : D) (Q : VK) : Prop := ∀ m' H' v, Ext m H m' H' → Rel K m' st H' → RepD K (hm m' H') z v → Q v H'
theorem Giv.now {K : PySem.W.Frag} {m : Mp} {H : Hp} {st : Sto} {z : D} {Q : VK} {v : V} (g : Giv K m H st z Q) (r : Rel K m st H) (h : RepD K (hm m H) z v) : Q v H := g m H v .refl r h
theorem Giv.bl {K : PySem.W.Frag} {m : Mp} {H : Hp} {st : Sto} {Q : VK} {b : Bool} (g : Giv K m H st (.bl b) Q) (r : Rel K m st H) : Q (.bl b) H := g.now r (by simp only [RepD])
theorem Giv.int {K : PySem.W.Frag} {m : Mp} {H : Hp} {st : Sto} {Q : VK} {b : Int} (g : Giv K m H st (.int b) Q) (r : Rel K m st H) : Q (.int b) H := g.now r (by simp only [RepD])
theorem Giv.str {K : PySem.W.Frag} {m : Mp} {H : Hp} {st : Sto} {Q : VK} {b : Str} (g : Giv K m H st (.str b) Q) (r : Rel K m st H) (h1 : b.length ≤ sizeLine) (h2 : PyData.strOk b = true) : Q (.str b) H := g.now r (by simp only [RepD]; exact ⟨trivial, h1, h2⟩)
theorem Giv.lst {K : PySem.W.Frag} {m : Mp} {H : Hp} {st : Sto} {Q : VK} {ds : List D} {vs : List V} {p : Addr} (g : Giv K m H st (.lst ds) Q) (r : Rel K m st H) (h : RepDs K (hm m H) ds vs) (l : ds.length ≤ sizeLine) (n : H p = none) : Q (.ref p) (upd H p (.lst vs)) :=
  g m _ _ (r.ext_fresh n) (r.fresh n) (by
    simp only [RepD]
    exact ⟨p, vs, rfl, .inl (.inl (hm_some.mpr ⟨r.fresh_ne n, upd_same⟩)), l, h.mono (hm_upd n)⟩)
theorem Giv.tup {K : PySem.W.Frag} {m : Mp} {H : Hp} {st : Sto} {Q : VK} {ds : List D} {vs : List V} {p : Addr} (g : Giv K m H st (.tup ds) Q) (r : Rel K m st H) (h : RepDs K (hm m H) ds vs) (l : ds.length ≤ sizeLine) (n : H p = none) : Q (.ref p) (upd H p (.tup vs)) :=
  g m _ _ (r.ext_fresh n) (r.fresh n) (by
    simp only [RepD]
    exact ⟨p, vs, rfl, .inl (.inl (hm_some.mpr ⟨r.fresh_ne n, upd_same⟩)), l, h.mono (hm_upd n), fun _ => hm_some.mpr ⟨r.fresh_ne n, upd_same⟩⟩)
/-- an operation of two by its function over data -/
def r2 (K : PySem.W.Frag) (f : D → D → Option D) : R2 := fun v w H Q => ∃ m st x y z, Rel K m st H ∧ RepR K m H x v ∧ RepR K m H y w ∧ f x y = some z ∧ Giv K m H st z Q

/-- the same, a new list by itself -/
def GivF (K : PySem.W.Frag) (m : Mp) (H : Hp) (st : Sto) (z : D) (Q : VK) : Prop := match z with
  | .lst ds => ∀ m' H' vs p, Ext m H m' H' → Rel K m' st H' → RepDs K (hm m' H') ds vs → ds.length ≤ sizeLine → H' p = none → Q (.ref p) (upd H' p (.lst vs))
  | z => Giv K m H st z Q
def r2F (K : PySem.W.Frag) (f : D → D → Option D) : R2 := fun v w H Q => ∃ m st x y z, Rel K m st H ∧ RepR K m H x v ∧ RepR K m H y w ∧ f x y = some z ∧ GivF K m H st z Q

theorem cat_l {l b : Addr} {pins : List (Addr × Obj)} {σ : L2.St} {H : Hp} {s : Shared} {Q : VK} {xs zs : List V} (I : Inv X pins σ H s) (hl : SqL X.K H l xs) (hb : SqL X.K H b zs) (hz : xs.length + zs.length ≤ sizeLine)
    (q : ∀ p, H p = none → Q (.ref p) (upd H p (.lst (xs ++ zs)))) : wpAny (model X.prog X.w) X.A (binaryOp .Add (.ref l) (.ref b)) (EP X pins σ Q) X.xe s := by
  obtain ⟨its, r1, ⟨⟨cls, dd, data, sl⟩, n, ho, hc, _, hd⟩, _⟩ := I.list hl
  obtain ⟨its2, r2, ⟨⟨cls2, dd2, data2, sl2⟩, n2, ho2, hc2, _, hd2⟩, _⟩ := I.list hb
  simp only at hc hd hc2 hd2
  subst hc hd hc2 hd2
  have e : its.toArray ++ its2.toArray = (its ++ its2).toArray := by simp
  refine concat_meets ⟨_, ho, rfl⟩ ⟨_, ho2, rfl⟩ noFill_list_add seq_list_add PySem.F.slot_list_add PySem.F.entry_list_add (PySem.F.args_list_add_2 _ _) (list_addW l b its.toArray its2.toArray n n2 dd dd2 sl sl2 (by
    rw [List.size_toArray, List.size_toArray, ← r1.length, ← r2.length]; exact hz)) ⟨ho, ho2, ?_⟩
  rw [e]
  exact ⟨.ref _, _, I.lnew (t' := s.toks) (r1.append r2) (by rw [List.length_append]; exact hz), rfl, q _ I.fresh⟩
theorem strOk_append {a b : Str} (h1 : PyData.strOk a = true) (h2 : PyData.strOk b = true) : PyData.strOk (a ++ b) = true := by
  unfold PyData.strOk at *
  show (a.cps ++ b.cps).all _ = true
  rw [Array.all_append, h1, h2]
  rfl
theorem len_append (a b : Str) : (a ++ b).length = a.length + b.length := by
  show (a.cps ++ b.cps).size = a.cps.size + b.cps.size
  exact Array.size_append
theorem op_addF : OpR X (binaryOp .Add) (r2F X.K (binD .Add)) := by
  intro pins s σ H x y v u Q I rx ry h
  obtain ⟨m, st, a, b, z, rel, ra, rb, e, g⟩ := h
  cases a <;> cases b <;> simp only [binD] at e <;> (try cases e)
  · simp only [RepR, RepD] at ra rb
    subst ra rb
    cases rx
    obtain ⟨t, rfl⟩ := ry
    exact PySem.IntBool.add_bool_int ⟨.int _, H, I.tok _, ⟨_, rfl⟩, Giv.int g rel⟩
  · simp only [RepR, RepD] at ra rb
    subst ra rb
    exact op_add pins s σ H _ _ v u Q I rx ry ⟨_, _, rfl, rfl, Giv.int g rel⟩
  · split at e <;> cases e
    simp only [RepR, RepD] at ra rb
    obtain ⟨rfl, l1, o1⟩ := ra
    obtain ⟨rfl, l2, o2⟩ := rb
    rename_i hl
    exact op_add_str pins s σ H _ _ v u Q I rx ry ⟨_, _, rfl, rfl, hl, Giv.str g rel (by rw [len_append]; exact hl) (strOk_append o1 o2)⟩
  · split at e <;> cases e
    rename_i hl
    simp only [RepR, RepD] at ra rb
    obtain ⟨a1, vs1, rfl, q1, z1, p1, y1⟩ := ra
    obtain ⟨a2, vs2, rfl, q2, z2, p2, y2⟩ := rb
    refine op_catA pins s σ H _ _ v u Q I rx ry ⟨a1, a2, vs1, vs2, rfl, rfl, same_tup hm_same q1, same_tup hm_same q2, by rw [← p1.length, ← p2.length]; exact hl, fun hx => ?_, fun hx hy => ?_, fun hx hy p n => Giv.tup g rel (p1.append p2) (by rw [List.length_append]; exact hl) n⟩
    · subst hx
      have e1 := List.length_eq_zero_iff.mp p1.length
      rw [e1, List.nil_append] at g
      exact Giv.now g rel (by simp only [RepD]; exact ⟨a2, vs2, rfl, q2, z2, p2, y2⟩)
    · subst hy
      have e1 := List.length_eq_zero_iff.mp p2.length
      rw [e1, List.append_nil] at g
      exact Giv.now g rel (by simp only [RepD]; exact ⟨a1, vs1, rfl, q1, z1, p1, y1⟩)
  · split at e <;> cases e
    rename_i hl
    obtain ⟨a1, vs1, rfl, q1, z1, p1⟩ := ra
    obtain ⟨a2, vs2, rfl, q2, z2, p2⟩ := rb
    cases rx; cases ry
    exact cat_l I q1 q2 (by rw [← p1.length, ← p2.length]; exact hl) fun p n => g m H _ p .refl rel (p1.append p2) (by rw [List.length_append]; exact hl) n
theorem op_subD : OpR X (binaryOp .Sub) (r2 X.K (binD .Sub)) := by
  intro pins s σ H x y v u Q I rx ry h
  obtain ⟨m, st, a, b, z, rel, ra, rb, e, g⟩ := h
  cases a <;> cases b <;> simp only [binD] at e <;> (try cases e)
  · simp only [RepR, RepD] at ra rb
    subst ra rb
    cases rx
    obtain ⟨t, rfl⟩ := ry
    exact PySem.IntBool.sub_bool_int ⟨.int _, H, I.tok _, ⟨_, rfl⟩, g.int rel⟩
  · simp only [RepR, RepD] at ra rb
    subst ra rb
    obtain ⟨t, rfl⟩ := rx
    cases ry
    exact PySem.IntBool.sub_int_bool ⟨.int _, H, I.tok _, ⟨_, rfl⟩, g.int rel⟩
  · simp only [RepR, RepD] at ra rb
    subst ra rb
    exact op_sub pins s σ H _ _ v u Q I rx ry ⟨_, _, rfl, rfl, g.int rel⟩
theorem mul_all {c : Array Nat} {p : Nat → Bool} (h : c.all p = true) : ∀ (n : Nat) (acc : Array Nat), acc.all p = true → ((List.replicate n c).foldl (· ++ ·) acc).all p = true ∧ ((List.replicate n c).foldl (· ++ ·) acc).size = acc.size + n * c.size
  | 0, acc, ha => ⟨ha, by simp⟩
  | n + 1, acc, ha => by
    simp only [List.replicate_succ, List.foldl_cons]
    obtain ⟨h1, h2⟩ := mul_all h n (acc ++ c) (by rw [Array.all_append, ha, h]; rfl)
    refine ⟨h1, ?_⟩
    rw [h2, Array.size_append, Nat.succ_mul]
    omega
theorem mul_ok {s : Str} {n : Int} (h : PyData.strOk s = true) (h0 : 0 ≤ n) (hn : n < 1000) (hs : s.length < 1000) : PyData.strOk (Txt.mul s n) = true ∧ (Txt.mul s n).length ≤ sizeLine := by
  unfold Txt.mul
  rw [sizeLine_eq]
  split
  · exact ⟨by simp [PyData.strOk, Str.empty], Nat.zero_le _⟩
  · split
    · exact ⟨h, by omega⟩
    · obtain ⟨h1, h2⟩ := mul_all h n.toNat #[] (by simp)
      refine ⟨h1, ?_⟩
      show ((List.replicate n.toNat s.cps).foldl (· ++ ·) #[]).size ≤ _
      rw [h2]
      have a : n.toNat ≤ 1000 := by omega
      have b : s.cps.size ≤ 1000 := Nat.le_of_lt hs
      have := Nat.mul_le_mul a b
      simp only [Array.size_empty]
      omega
theorem mulOk {i j : Int} (h3 : i.natAbs.log2 + j.natAbs.log2 < 100000000) : IntMulOk i j := by
  have b : ∀ x : Int, Builtin.Int.intBits x ≤ x.natAbs.log2 + 1 := fun x => by
    unfold Builtin.Int.intBits
    split <;> omega
  have h1 := b i
  have h2 := b j
  have e : bitsLine = 134217728 := by decide
  unfold IntMulOk
  intro z
  rw [Bool.and_eq_true] at z
  have z2 := z.2
  unfold Builtin.Int.intTooBig at z2
  have z3 := of_decide_eq_true z2
  rw [e] at z3
  omega
theorem bits64 {i : Int} (h : i.natAbs < 18446744073709551616) : Builtin.Int.intBits i ≤ 64 := by
  unfold Builtin.Int.intBits
  split
  · omega
  · rename_i h0
    have h1 : i.natAbs ≠ 0 := by simpa using h0
    have := (Nat.log2_lt (k := 64) h1).mpr (by simpa using h)
    omega
theorem mulOk3 {i j : Int} (h : i.natAbs < 18446744073709551616 ∨ j.natAbs < 18446744073709551616 ∨ i.natAbs.log2 + j.natAbs.log2 < 100000000) : IntMulOk i j := by
  rcases h with h | h | h
  · exact .of_left (bits64 h)
  · exact .of_right (bits64 h)
  · exact mulOk h
theorem RepDs.rep {K : PySem.W.Frag} {H : Hp} {ds : List D} {vs : List V} (h : RepDs K H ds vs) : ∀ n : Nat, RepDs K H (List.replicate n ds).flatten (List.replicate n vs).flatten
  | 0 => by simp only [List.replicate, List.flatten_nil]; exact .nil
  | n + 1 => by simp only [List.replicate_succ, List.flatten_cons]; exact h.append (RepDs.rep h n)
theorem op_mulD : OpR X (binaryOp .Mult) (r2 X.K (binD .Mult)) := by
  intro pins s σ H x y v u Q I rx ry h
  obtain ⟨m, st, a, b, z, rel, ra, rb, e, g⟩ := h
  cases a <;> cases b <;> simp only [binD] at e <;> (try cases e)
  · simp only [RepR, RepD] at ra rb
    subst ra rb
    cases rx
    obtain ⟨t, rfl⟩ := ry
    exact PySem.IntBool.mul_bool_int ⟨.int _, H, I.tok _, ⟨_, rfl⟩, g.int rel⟩
  · simp only [RepR, RepD] at ra rb
    subst ra rb
    obtain ⟨t, rfl⟩ := rx
    cases ry
    exact PySem.IntBool.mul_int_bool ⟨.int _, H, I.tok _, ⟨_, rfl⟩, g.int rel⟩
  · split at e <;> cases e
    simp only [RepR, RepD] at ra rb
    subst ra rb
    rename_i hb
    exact opI (C := fun i j => i.natAbs < 18446744073709551616 ∨ j.natAbs < 18446744073709551616 ∨ i.natAbs.log2 + j.natAbs.log2 < 100000000) (fun _ _ _ _ _ _ _ hc q => mul_int q (mulOk3 hc)) pins s σ H _ _ v u Q I rx ry ⟨_, _, rfl, rfl, hb, g.int rel⟩
  · split at e <;> cases e
    rename_i x n hh
    obtain ⟨h1, h2, h3⟩ := hh
    simp only [RepR, RepD] at ra rb
    subst rb
    obtain ⟨rfl, l1, o1⟩ := ra
    obtain ⟨t, rfl⟩ := rx
    obtain ⟨t', rfl⟩ := ry
    obtain ⟨k1, k2⟩ := mul_ok o1 h1 h2 h3
    refine SB.mul ⟨?_, fun _ _ => ?_, fun _ _ => ?_⟩ fun t' k => ⟨.str _, H, I.tok _, ⟨_, rfl⟩, g.str rel k2 k1⟩
    · simp; omega
    · rename_i hn _
      have hpos : (0 : Int) < n := by omega
      have : (x.length : Int) ≤ (2 ^ 63 - 1) / n := by
        rw [Int.le_ediv_iff_mul_le hpos]
        have a1 : (x.length : Int) ≤ 1000 := by omega
        have a2 : n ≤ 1000 := by omega
        have := Int.mul_le_mul a1 a2 (by omega) (by omega)
        omega
      omega
    · have a : n.toNat ≤ 1000 := by omega
      have b : x.length ≤ 1000 := by omega
      have := Nat.mul_le_mul b a
      show decide (x.length * n.toNat > sizeLine) = false
      rw [sizeLine_eq]
      simp
      omega
  · split at e <;> cases e
    rename_i hh
    obtain ⟨h1, h2, h3⟩ := hh
    simp only [RepR, RepD] at ra rb
    subst rb
    obtain ⟨a1, vs, rfl, q1, z1, p1, y1⟩ := ra
    have len := p1.length
    refine op_tmul pins s σ H _ _ v u Q I rx ry ⟨a1, _, vs, rfl, rfl, same_tup hm_same q1, h1, h2, by omega, fun o => ?_, fun hn h1' p np => ?_⟩
    · refine g.now rel ?_
      have e : ∀ {α : Type} (l : List α) (k : Int), l = [] ∨ k = 1 → (List.replicate k.toNat l).flatten = l := by
        intro α l k h
        rcases h with rfl | rfl
        · induction k.toNat with
          | zero => rfl
          | succ n ih => rw [List.replicate_succ, List.flatten_cons, ih]; rfl
        · simp
      rw [e _ _ (by
        rcases o with z | z
        · left; exact List.eq_nil_of_length_eq_zero (by rw [len, z]; rfl)
        · exact .inr z)]
      simp only [RepD]
      exact ⟨a1, vs, rfl, q1, z1, p1, y1⟩
    · refine g.tup rel (p1.rep _) ?_ np
      rw [PyProof.Rows.lm_len_rep_flat]
      have : ∀ k : Int, k ≤ 1000 → k.toNat ≤ 1000 := fun k h => by omega
      have := Nat.mul_le_mul (this _ h2) h3
      rw [sizeLine_eq]
      omega
theorem noPylong_neg {i j : Int} (h : j.natAbs.log2 < 9000) : Builtin.divisionGoesByPylong i j = false := by
  unfold Builtin.divisionGoesByPylong
  simp only [Bool.and_eq_false_iff, decide_eq_false_iff_not]
  left
  split <;> omega
theorem noPylong_top {i j : Int} (h : j.natAbs.log2 < 9000 ∨ i.natAbs.log2 < 13400) : Builtin.divisionGoesByPylong i j = false := by
  rcases h with h | h
  · exact noPylong_neg h
  · unfold Builtin.divisionGoesByPylong
    simp only [Bool.and_eq_false_iff, decide_eq_false_iff_not]
    by_cases hj : (if (j == 0) = true then 0 else j.natAbs.log2 / 30 + 1) > 300
    · right
      have : (if (i == 0) = true then 0 else i.natAbs.log2 / 30 + 1) ≤ 447 := by split <;> omega
      omega
    · exact .inl hj
theorem op_fdivD : OpR X (binaryOp .FloorDiv) (r2 X.K (binD .FloorDiv)) := by
  intro pins s σ H x y v u Q I rx ry h
  obtain ⟨m, st, a, b, z, rel, ra, rb, e, g⟩ := h
  cases a <;> cases b <;> simp only [binD] at e <;> (try cases e)
  split at e <;> cases e
  rename_i hb
  simp only [RepR, RepD] at ra rb
  subst ra rb
  obtain ⟨t, rfl⟩ := rx
  obtain ⟨t', rfl⟩ := ry
  exact floordiv_int hb.1 ⟨.int _, H, I.tok _, ⟨_, rfl⟩, g.int rel⟩ (.inl (noPylong_top hb.2))
theorem op_modD : OpR X (binaryOp .Mod) (r2 X.K (binD .Mod)) := by
  intro pins s σ H x y v u Q I rx ry h
  obtain ⟨m, st, a, b, z, rel, ra, rb, e, g⟩ := h
  cases a <;> cases b <;> simp only [binD] at e <;> (try cases e)
  split at e <;> cases e
  rename_i hb
  simp only [RepR, RepD] at ra rb
  subst ra rb
  exact op_modN pins s σ H _ _ v u Q I rx ry ⟨_, _, rfl, rfl, hb, g.int rel⟩
theorem op_powD : OpR X (binaryOp .Pow) (r2 X.K (binD .Pow)) := by
  intro pins s σ H x y v u Q I rx ry h
  obtain ⟨m, st, a, b, z, rel, ra, rb, e, g⟩ := h
  cases a <;> cases b <;> simp only [binD] at e <;> (try cases e)
  split at e <;> cases e
  rename_i hb
  simp only [RepR, RepD] at ra rb
  subst ra rb
  exact op_pow pins s σ H _ _ v u Q I rx ry ⟨_, _, rfl, rfl, hb, g.int rel⟩
theorem binD_nolist {op : Operator} (h : op ≠ .Add) {x y z : D} (e : binD op x y = some z) : ∀ ds, z ≠ .lst ds := by
  intro ds hz
  subst hz
  cases op <;> (try exact h rfl) <;> cases x <;> cases y <;> simp only [binD] at e <;> (try cases e) <;> (split at e <;> cases e)
theorem GivF.weak {K : PySem.W.Frag} {m : Mp} {H : Hp} {st : Sto} {z : D} {Q : VK} (h : ∀ ds, z ≠ .lst ds) (g : GivF K m H st z Q) : Giv K m H st z Q := by
  cases z with
  | lst ds => exact absurd rfl (h ds)
  | _ => exact g
theorem op_noF {f : Value → Value → Sem Value} {op : Operator} (h : op ≠ .Add) (o : OpR X f (r2 X.K (binD op))) : OpR X f (r2F X.K (binD op)) := by
  intro pins s σ H x y v u Q I rx ry q
  obtain ⟨m, st, a, b, z, rel, ra, rb, e, g⟩ := q
  exact o pins s σ H x y v u Q I rx ry ⟨m, st, a, b, z, rel, ra, rb, e, g.weak (binD_nolist h e)⟩
theorem op_binF (op : Operator) : OpR X (binaryOp op) (r2F X.K (binD op)) := by
  cases op
  case Add => exact op_addF
  case Sub => exact op_noF (by decide) op_subD
  case Mult => exact op_noF (by decide) op_mulD
  case FloorDiv => exact op_noF (by decide) op_fdivD
  case Mod => exact op_noF (by decide) op_modD
  case Pow => exact op_noF (by decide) op_powD
  all_goals
    intro pins s σ H x y v u Q I rx ry h
    obtain ⟨m, st, a, b, z, rel, ra, rb, e, g⟩ := h
    simp only [binD] at e
    cases e
/-! ### comparisons -/
def cmpO (op : CmpOp) (a b : D) : Option D := match cmpD op a b with | some k => some (.bl k) | none => none
theorem cmpO_some {op : CmpOp} {a b : D} {z : D} (h : cmpO op a b = some z) : ∃ k, cmpD op a b = some k ∧ z = .bl k := by
  unfold cmpO at h
  split at h <;> cases h
  exact ⟨_, by assumption, rfl⟩
theorem tup0_tups {pins : List (Addr × Obj)} {σ : L2.St} {H : Hp} {s : Shared} {a b : D} {x y : V} {v u : Value} {k : Bool} (I : Inv X pins σ H s) (rx : RelV x v) (ry : RelV y u) (ra : RepD X.K H a x) (rb : RepD X.K H b y) (e : tup0 a b = some k) :
    ∃ (l l2 : Addr) (its its2 : Array Value), v = .ref l ∧ u = .ref l2 ∧ s.heap.IsTuple l its ∧ s.heap.IsTuple l2 its2 ∧ its2.size = 0 ∧ k = (its.size == 0) := by
  unfold tup0 at e
  split at e
  · cases e
    simp only [RepD] at ra rb
    obtain ⟨l, vs, rfl, h1, _, r1, _⟩ := ra
    obtain ⟨l2, vs2, rfl, h2, _, r2, _⟩ := rb
    cases rx
    cases ry
    obtain ⟨its, q1, ht, _⟩ := I.tuple h1
    obtain ⟨its2, q2, ht2, _⟩ := I.tuple h2
    simp only [RepDs] at r2
    subst r2
    refine ⟨l, l2, its.toArray, its2.toArray, rfl, rfl, ht, ht2, by have := q2.length; simpa using this.symm, ?_⟩
    have n1 := q1.length
    have n2 := r1.length
    rw [List.size_toArray, ← n1, ← n2]
    have key : ∀ zs : List D, zs.isEmpty = (zs.length == 0) := fun zs => by cases zs <;> rfl
    exact key _
  · cases e
theorem tup0_rc {l l2 : Addr} {its its2 : Array Value} {s : Shared} (hu : X.A.units + 64 < cLine) (ht : s.heap.IsTuple l its) (ht2 : s.heap.IsTuple l2 its2) (hz : its2.size = 0) : PySem.SeqAt.RcAt X.A s (.ref l) (.ref l2) (its.size == 0) := by
  have := PySem.SeqAt.RcAt.tuples (A := X.A) (e := fun _ => true) ht ht2 (by omega) fun j _ h2 => by omega
  simpa [hz] using this
theorem tup0_eq {pins : List (Addr × Obj)} {σ : L2.St} {H : Hp} {s : Shared} {a b : D} {x y : V} {v u : Value} {k : Bool} {Q : VK} (hu : X.A.units + 64 < cLine) (I : Inv X pins σ H s) (rx : RelV x v) (ry : RelV y u) (ra : RepD X.K H a x) (rb : RepD X.K H b y) (e : tup0 a b = some k) (q : Q (.bl k) H) :
    wpAny (model X.prog X.w) X.A (compareOp .Eq v u) (EP X pins σ Q) X.xe s := by
  obtain ⟨l, l2, its, its2, rfl, rfl, ht, ht2, hz, rfl⟩ := tup0_tups I rx ry ra rb e
  exact tup0_rc hu ht ht2 hz _ _ _ _ ⟨.bl _, H, I, rfl, q⟩
theorem op_eqDD (hu : X.A.units + 64 < cLine) : OpR X (compareOp .Eq) (r2 X.K (cmpO .Eq)) := by
  intro pins s σ H x y v u Q I rx ry h
  obtain ⟨m, st, a, b, z, rel, ra, rb, e, g⟩ := h
  obtain ⟨k, e', rfl⟩ := cmpO_some e
  clear e
  rename _ = some k => e
  simp only [cmpD, eqO] at e
  split at e
  · cases e
    rename_i hd
    obtain ⟨d, e', h1, h2, h3, h4, h5⟩ := eq_dp ra.d rb.d hd.1 hd.2
    exact op_eqD hu pins s σ H _ _ v u Q I rx ry ⟨d, e', h1, h2, h3, h4, by rw [h5]; exact g.bl rel⟩
  · exact tup0_eq hu I rx ry ra.d rb.d e (g.bl rel)
theorem op_neDD (hu : X.A.units + 64 < cLine) : OpR X (compareOp .NotEq) (r2 X.K (cmpO .NotEq)) := by
  intro pins s σ H x y v u Q I rx ry h
  obtain ⟨m, st, a, b, z, rel, ra, rb, e, g⟩ := h
  obtain ⟨k, e', rfl⟩ := cmpO_some e
  clear e
  rename _ = some k => e
  simp only [cmpD, eqO1] at e
  split at e
  · simp only [notO, Option.some.injEq] at e
    subst e
    rename_i hd
    obtain ⟨d, e', h1, h2, h3, h4, h5⟩ := eq_dp ra.d rb.d hd.1 hd.2
    exact op_neD hu pins s σ H _ _ v u Q I rx ry ⟨d, e', h1, h2, h3, h4, by rw [h5]; exact g.bl rel⟩
  · cases e
theorem op_ltD (hu : X.A.units + 64 < cLine) : OpR X (compareOp .Lt) (r2 X.K (cmpO .Lt)) := by
  intro pins s σ H x y v u Q I rx ry h
  obtain ⟨m, st, a, b, z, rel, ra, rb, e, g⟩ := h
  obtain ⟨k, e', rfl⟩ := cmpO_some e
  clear e
  rename _ = some k => e
  simp only [cmpD] at e
  cases a <;> cases b <;> simp only [ltO, leO, gtO, geO] at e <;> (try cases e)
  · simp only [RepR, RepD] at ra rb
    subst ra rb
    exact op_lt pins s σ H _ _ v u Q I rx ry ⟨_, _, rfl, rfl, g.bl rel⟩
  · simp only [RepR, RepD] at ra rb
    obtain ⟨rfl, l1, o1⟩ := ra
    obtain ⟨rfl, l2, o2⟩ := rb
    exact op_lt_str pins s σ H _ _ v u Q I rx ry ⟨_, _, rfl, rfl, g.bl rel⟩
  · unfold ltPO at e
    split at e <;> cases e
    rename_i hc
    obtain ⟨c1, c2, c3, c4⟩ := hc
    obtain ⟨as, r1, _⟩ := reads_of I _ _ _ ra.d rx
    obtain ⟨bs, r2, _⟩ := reads_of I _ _ _ rb.d ry
    have hd := Nat.le_trans (toPyT_depth _) c3
    refine PySem.W.lt_data r1 r2 c1 (fun z => by rw [z] at c2; cases c2) (by omega) ⟨.bl _, H, I, rfl, g.bl rel⟩
theorem op_leD : OpR X (compareOp .LtE) (r2 X.K (cmpO .LtE)) := by
  intro pins s σ H x y v u Q I rx ry h
  obtain ⟨m, st, a, b, z, rel, ra, rb, e, g⟩ := h
  obtain ⟨k, e', rfl⟩ := cmpO_some e
  clear e
  rename _ = some k => e
  simp only [cmpD] at e
  cases a <;> cases b <;> simp only [ltO, leO, gtO, geO] at e <;> cases e
  simp only [RepR, RepD] at ra rb
  subst ra rb
  exact op_le pins s σ H _ _ v u Q I rx ry ⟨_, _, rfl, rfl, g.bl rel⟩
theorem op_gtD : OpR X (compareOp .Gt) (r2 X.K (cmpO .Gt)) := by
  intro pins s σ H x y v u Q I rx ry h
  obtain ⟨m, st, a, b, z, rel, ra, rb, e, g⟩ := h
  obtain ⟨k, e', rfl⟩ := cmpO_some e
  clear e
  rename _ = some k => e
  simp only [cmpD] at e
  cases a <;> cases b <;> simp only [ltO, leO, gtO, geO] at e <;> cases e
  simp only [RepR, RepD] at ra rb
  subst ra rb
  exact op_gt pins s σ H _ _ v u Q I rx ry ⟨_, _, rfl, rfl, g.bl rel⟩
theorem op_geD : OpR X (compareOp .GtE) (r2 X.K (cmpO .GtE)) := by
  intro pins s σ H x y v u Q I rx ry h
  obtain ⟨m, st, a, b, z, rel, ra, rb, e, g⟩ := h
  obtain ⟨k, e', rfl⟩ := cmpO_some e
  clear e
  rename _ = some k => e
  simp only [cmpD] at e
  cases a <;> cases b <;> simp only [ltO, leO, gtO, geO] at e <;> cases e
  simp only [RepR, RepD] at ra rb
  subst ra rb
  exact op_ge pins s σ H _ _ v u Q I rx ry ⟨_, _, rfl, rfl, g.bl rel⟩
theorem noneD_of {K : PySem.W.Frag} {H : Hp} {d : D} {v : V} (h : RepD K H d v) : decide (v = .non) = noneD d := by
  cases d <;> simp only [RepD] at h
  · subst h; rfl
  · subst h; rfl
  · subst h; rfl
  · obtain ⟨rfl, _⟩ := h; rfl
  · obtain ⟨_, _, rfl, _⟩ := h; rfl
  · obtain ⟨_, _, rfl, _⟩ := h; rfl
  · obtain ⟨_, _, rfl, _⟩ := h; rfl
theorem op_isD : OpR X (compareOp .Is) (r2 X.K (cmpO .Is)) := by
  intro pins s σ H x y v u Q I rx ry h
  obtain ⟨m, st, a, b, z, rel, ra, rb, e, g⟩ := h
  obtain ⟨k, e', rfl⟩ := cmpO_some e
  clear e
  rename _ = some k => e
  simp only [cmpD] at e
  cases b <;> simp only [isO] at e <;> (try cases e)
  · simp only [RepR, RepD] at rb
    subst rb
    exact op_isN pins s σ H _ _ v u Q I rx ry ⟨rfl, by rw [noneD_of ra.d]; exact g.bl rel⟩
  · split at e <;> cases e
    simp only [RepR, RepD] at ra rb
    subst ra rb
    exact op_isBl pins s σ H _ _ v u Q I rx ry ⟨_, _, rfl, rfl, g.bl rel⟩
theorem op_isnotD : OpR X (compareOp .IsNot) (r2 X.K (cmpO .IsNot)) := by
  intro pins s σ H x y v u Q I rx ry h
  obtain ⟨m, st, a, b, z, rel, ra, rb, e, g⟩ := h
  obtain ⟨k, e', rfl⟩ := cmpO_some e
  clear e
  rename _ = some k => e
  simp only [cmpD] at e
  cases b <;> simp only [isO, notO] at e <;> (try cases e)
  · simp only [RepR, RepD] at rb
    subst rb
    exact op_notN pins s σ H _ _ v u Q I rx ry ⟨rfl, by rw [noneD_of ra.d]; exact g.bl rel⟩
  · cases a <;> simp only [] at e <;> (try cases e)
    simp only [RepR, RepD] at ra rb
    subst ra rb
    exact op_notBl pins s σ H _ _ v u Q I rx ry ⟨_, _, rfl, rfl, g.bl rel⟩
theorem flat_of {K : PySem.W.Frag} {H : Hp} {d : D} {v : V} (h : RepD K H d v) (f : flatD d = true) : flatV v = true := by
  cases d <;> simp only [flatD] at f <;> (try cases f) <;> simp only [RepD] at h
  · subst h; rfl
  · subst h; rfl
  · subst h; rfl
  · obtain ⟨rfl, _⟩ := h; rfl
theorem eqV_of {K : PySem.W.Frag} {H : Hp} {d e : D} {v w : V} (h : RepD K H d v) (f : flatD d = true) (h2 : RepD K H e w) (f2 : flatD e = true) : eqV v w = eqD d e := by
  cases d <;> simp only [flatD] at f <;> (try cases f) <;> cases e <;> simp only [flatD] at f2 <;> (try cases f2) <;> simp only [RepD] at h h2 <;> (try (have h := h.1)) <;> (try (have h2 := h2.1)) <;> subst h h2 <;> simp [eqV, eqD]
theorem flats_of {K : PySem.W.Frag} {H : Hp} : ∀ {ds : List D} {vs : List V}, RepDs K H ds vs → ds.all flatD = true → vs.all flatV = true
  | [], _, h, _ => by simp only [RepDs] at h; subst h; rfl
  | d :: ds, _, h, f => by
    obtain ⟨v, r, rfl, p, q⟩ := h.uncons
    simp only [List.all_cons, Bool.and_eq_true] at f ⊢
    exact ⟨flat_of p f.1, flats_of q f.2⟩
theorem inV_of {K : PySem.W.Frag} {H : Hp} {x : D} {w : V} (hx : RepD K H x w) (fx : flatD x = true) : ∀ {ds : List D} {vs : List V}, RepDs K H ds vs → ds.all flatD = true → inV w vs = inD x ds
  | [], _, h, _ => by simp only [RepDs] at h; subst h; rfl
  | d :: ds, _, h, f => by
    obtain ⟨v, r, rfl, p, q⟩ := h.uncons
    simp only [List.all_cons, Bool.and_eq_true] at f
    have := inV_of hx fx q f.2
    unfold inV inD at this ⊢
    simp only [List.any_cons, this, eqV_of p f.1 hx fx]
theorem strIn_one {a : Str} {c : Nat} (h : a.cps.toList = [c]) : a = ⟨#[c]⟩ := by
  cases a with
  | mk cps =>
    simp only at h
    congr 1
    exact Array.toList_inj.mp h
theorem keyOf_rep {K : PySem.W.Frag} {m : Mp} {H : Hp} {d : D} {v : V} {k : Key} (h : RepR K m H d v) (e : keyOf d = some k) : v = kV k := by
  cases d <;> simp only [keyOf] at e <;> cases e
  · simp only [RepR, RepD] at h; exact h
  · simp only [RepR, RepD] at h; exact h.1
theorem zip_in {ks : List Key} {vs : List V} (h : ks.length = vs.length) (k : Key) : (valV (ks.zip vs) k).isSome = ks.any fun j => decide (j = k) := by
  induction ks generalizing vs with
  | nil => simp [valV]
  | cons j ks ih =>
    cases vs with
    | nil => cases h
    | cons v vs =>
      rw [List.zip_cons_cons]
      by_cases e : j = k
      · subst e; rw [valV_pos rfl]; simp
      · rw [valV_neg e, ih (by simpa using h), List.any_cons, decide_eq_false e, Bool.false_or]
theorem zip_get {K : PySem.W.Frag} {H : Hp} : ∀ {ks : List Key} {xs : List D} {vs : List V} {k : Key} {d : D}, RepDs K H xs vs → dget ks xs k = some d → ∃ v, valV (ks.zip vs) k = some v ∧ RepD K H d v
  | [], xs, vs, k, d, _, e => by cases xs <;> simp [dget] at e
  | j :: ks, [], vs, k, d, _, e => by simp [dget] at e
  | j :: ks, x :: xs, vs, k, d, r, e => by
    obtain ⟨v, w, rfl, rv, rw'⟩ := r.uncons
    rw [List.zip_cons_cons]
    unfold dget at e
    split at e
    · rename_i h
      cases e
      exact ⟨v, valV_pos h, rv⟩
    · rename_i h
      obtain ⟨u, h1, h2⟩ := zip_get rw' e
      exact ⟨u, by rw [valV_neg h]; exact h1, h2⟩
theorem op_inD (hu : X.A.units + 64 < cLine) : OpR X (compareOp .In) (r2 X.K (cmpO .In)) := by
  intro pins s σ H x y v u Q I rx ry h
  obtain ⟨m, st, a, b, z, rel, ra, rb, e, g⟩ := h
  obtain ⟨k, e', rfl⟩ := cmpO_some e
  clear e
  rename _ = some k => e
  simp only [cmpD] at e
  have seq : ∀ xs, (RepD X.K H (.lst xs) y ∨ RepD X.K H (.tup xs) y) → (flatD a && xs.all flatD) = true → k = (inD a xs) →
      wpAny (model X.prog X.w) X.A (compareOp .In v u) (EP X pins σ Q) X.xe s := fun xs hq hf e => by
    subst e
    rw [Bool.and_eq_true] at hf
    simp only [RepD] at hq
    have hq2 : ∃ p vs, y = .ref p ∧ (SqL X.K H p vs ∨ SqT X.K H p vs) ∧ RepDs X.K H xs vs := by
      rcases hq with ⟨p, vs, h1, q1, _, q2⟩ | ⟨p, vs, h1, q1, _, q2, _⟩
      · exact ⟨p, vs, h1, .inl q1, q2⟩
      · exact ⟨p, vs, h1, .inr q1, q2⟩
    obtain ⟨p, vs, rfl, q1, q2⟩ := hq2
    refine op_in_seq pins s σ H _ _ v u Q I rx ry ⟨p, vs, rfl, q1, flat_of ra.d hf.1, flats_of q2 hf.2, ?_⟩
    rw [inV_of ra.d hf.1 q2 hf.2]
    exact g.bl rel
  cases b with
  | lst xs =>
    simp only [inO, notO] at e
    split at e
    · rename_i hf
      cases e
      exact seq xs (.inl rb.d) hf rfl
    · cases e
  | tup xs =>
    simp only [inO, notO] at e
    split at e
    · rename_i hf
      cases e
      exact seq xs (.inr rb.d) hf rfl
    · cases e
  | str t =>
    cases a <;> simp only [inO, notO] at e <;> cases e
    simp only [RepR, RepD] at ra rb
    obtain ⟨rfl, _⟩ := ra
    obtain ⟨rfl, _⟩ := rb
    have g1 := g.bl rel
    unfold strIn at g1
    split at g1
    · rename_i c hc
      rw [strIn_one hc] at rx
      exact op_in_sign pins s σ H _ _ v u Q I rx ry ⟨c, _, rfl, rfl, g1⟩
    · exact op_in_str pins s σ H _ _ v u Q I rx ry ⟨_, _, rfl, rfl, g1⟩
  | dct ks xs =>
    simp only [inO, notO] at e
    split at e
    · rename_i k' hk
      cases e
      simp only [RepR, RepD] at rb
      obtain ⟨p, vs, rfl, q1, q2, q3⟩ := rb
      have := keyOf_rep ra hk
      subst this
      cases ry
      refine d_in (by omega) I (DGet.k (k := k') (hm_same _ _ q1)) rx fun s' I' => ⟨.bl _, H, I', rfl, ?_⟩
      rw [zip_in q2]
      exact g.bl rel
    · cases e
  | _ => simp only [inO, notO] at e <;> cases e
theorem op_notinD (hu : X.A.units + 64 < cLine) : OpR X (compareOp .NotIn) (r2 X.K (cmpO .NotIn)) := by
  intro pins s σ H x y v u Q I rx ry h
  obtain ⟨m, st, a, b, z, rel, ra, rb, e, g⟩ := h
  obtain ⟨k, e', rfl⟩ := cmpO_some e
  clear e
  rename _ = some k => e
  simp only [cmpD] at e
  have seq : ∀ xs, (RepD X.K H (.lst xs) y ∨ RepD X.K H (.tup xs) y) → (flatD a && xs.all flatD) = true → k = (!inD a xs) →
      wpAny (model X.prog X.w) X.A (compareOp .NotIn v u) (EP X pins σ Q) X.xe s := fun xs hq hf e => by
    subst e
    rw [Bool.and_eq_true] at hf
    simp only [RepD] at hq
    have hq2 : ∃ p vs, y = .ref p ∧ (SqL X.K H p vs ∨ SqT X.K H p vs) ∧ RepDs X.K H xs vs := by
      rcases hq with ⟨p, vs, h1, q1, _, q2⟩ | ⟨p, vs, h1, q1, _, q2, _⟩
      · exact ⟨p, vs, h1, .inl q1, q2⟩
      · exact ⟨p, vs, h1, .inr q1, q2⟩
    obtain ⟨p, vs, rfl, q1, q2⟩ := hq2
    refine op_notIn_seq pins s σ H _ _ v u Q I rx ry ⟨p, vs, rfl, q1, flat_of ra.d hf.1, flats_of q2 hf.2, ?_⟩
    rw [inV_of ra.d hf.1 q2 hf.2]
    exact g.bl rel
  cases b with
  | lst xs =>
    simp only [inO, notO] at e
    split at e
    · rename_i hf
      split at hf <;> cases hf
      cases e; rename_i hf; exact seq xs (.inl rb.d) hf rfl
    · cases e
  | tup xs =>
    simp only [inO, notO] at e
    split at e
    · rename_i hf
      split at hf <;> cases hf
      cases e; rename_i hf; exact seq xs (.inr rb.d) hf rfl
    · cases e
  | str t =>
    cases a <;> simp only [inO, notO] at e <;> cases e
    simp only [RepR, RepD] at ra rb
    obtain ⟨rfl, _⟩ := ra
    obtain ⟨rfl, _⟩ := rb
    have g1 := g.bl rel
    unfold strIn at g1
    split at g1
    · rename_i c hc
      rw [strIn_one hc] at rx
      exact op_notIn_sign pins s σ H _ _ v u Q I rx ry ⟨c, _, rfl, rfl, g1⟩
    · exact op_notin_str pins s σ H _ _ v u Q I rx ry ⟨_, _, rfl, rfl, g1⟩
  | dct ks xs =>
    simp only [inO, notO] at e
    split at e
    · rename_i b' hb
      split at hb
      · rename_i k' hk
        cases hb
        cases e
        simp only [RepR, RepD] at rb
        obtain ⟨p, vs, rfl, q1, q2, q3⟩ := rb
        have := keyOf_rep ra hk
        subst this
        cases ry
        refine d_notIn (by omega) I (DGet.k (k := k') (hm_same _ _ q1)) rx fun s' I' => ⟨.bl _, H, I', rfl, ?_⟩
        rw [zip_in q2]
        exact g.bl rel
      · cases hb
    · cases e
  | _ => simp only [inO, notO] at e <;> cases e
theorem op_cmpD (hu : X.A.units + 64 < cLine) (op : CmpOp) : OpR X (compareOp op) (r2 X.K (cmpO op)) := by
  cases op
  case Eq => exact op_eqDD hu
  case NotEq => exact op_neDD hu
  case Lt => exact op_ltD hu
  case LtE => exact op_leD
  case Gt => exact op_gtD
  case GtE => exact op_geD
  case Is => exact op_isD
  case IsNot => exact op_isnotD
  case In => exact op_inD hu
  case NotIn => exact op_notinD hu
end TW
namespace TW
open PySem PySem.Spec PyProof.Rows L2
variable {X : Cx} {g : Gx} {a b c e : Expr} {pos : Pos} {fa fb fc : En → Sto → R Vv}

theorem bind_assoc {α β γ : Type} (r : R α) (f : α → Sto → R β) (k : β → Sto → R γ) : (r.bind f).bind k = r.bind fun x st => (f x st).bind k := by
  cases r <;> rfl
theorem bind_ok {α β : Type} (x : α) (st : Sto) (f : α → Sto → R β) : (R.ok x st).bind f = f x st := id rfl
theorem out_give {m : Mp} {H : Hp} {σ : L2.St} {Q : VK} {o : Option D} {st : Sto} (h : Out g m H σ (RepV g.K) Q (give o st)) : ∃ z, o = some z ∧ Giv g.K m H st z Q := by
  cases o with
  | none => exact h.elim
  | some z => exact ⟨z, rfl, fun m' H' v e r q => h m' H' v e r q⟩
theorem out_op2 {m : Mp} {H : Hp} {σ : L2.St} {Q : VK} {f : D → D → Option D} {x y : Vv} {st : Sto} {v w : V} (rel : Rel g.K m st H) (rx : RepV g.K m H x v) (ry : RepV g.K m H y w) (h : Out g m H σ (RepV g.K) Q (op2 f x y st)) : r2 g.K f v w H Q := by
  unfold op2 at h
  split at h
  · rename_i h1 h2
    obtain ⟨z, e, q⟩ := out_give h
    exact ⟨m, st, _, _, z, rel, der_rep rel h1 rx, der_rep rel h2 ry, e, q⟩
  · exact h.elim
/-- two expressions, then an operation -/
theorem two_op {f : D → D → Option D} : ∀ σ H Q, LE g (fun en st => (fa en st).bind fun x st => (fb en st).bind fun y st => op2 f x y st) σ H Q → tOp (r2 g.K f) (LE g fa) (LE g fb) σ H Q := by
  rintro σ H Q ⟨m, en, st, rel, re, out⟩
  refine ⟨m, en, st, rel, re, Out.bind out fun x st1 m1 H1 v e1 x1 l1 rx o1 => ?_⟩
  refine ⟨m1, en, st1, l1, re.ext x1, Out.bind o1 fun y st2 m2 H2 w e2 x2 l2 ry o2 => ?_⟩
  exact out_op2 l2 (rx.ext x2) ry o2
/-- an expression whose list, where it gives one, is new -/
def OutF (g : Gx) (m : Mp) (H : Hp) (σ : L2.St) (Q : VK) : R Vv → Prop
  | .ok (.d (.lst ds)) st => ∀ m' H' vs p, Ext m H m' H' → Rel g.K m' st H' → RepDs g.K (hm m' H') ds vs → ds.length ≤ sizeLine → H' p = none → Q (.ref p) (upd H' p (.lst vs))
  | r => Out g m H σ (RepV g.K) Q r
def LF (g : Gx) (f : En → Sto → R Vv) : TE := fun σ H Q => ∃ m en st, Rel g.K m st H ∧ RepE g.K m H en σ ∧ OutF g m H σ Q (f en st)
theorem OutF.ext {m m1 : Mp} {H H1 : Hp} {σ : L2.St} {Q : VK} {r : R Vv} (e : Ext m H m1 H1) (h : OutF g m H σ Q r) : OutF g m1 H1 σ Q r := by
  cases r with
  | ok x st =>
    cases x with
    | ref n => exact Out.ext (g := g) (σ := σ) (rep := RepV g.K) (Q := Q) (r := .ok (.ref n) st) e h
    | exn z => exact Out.ext (g := g) (σ := σ) (rep := RepV g.K) (Q := Q) (r := .ok (.exn z) st) e h
    | d z => cases z with
      | lst ds => exact fun m' H' vs p q => h m' H' vs p (e.trans q)
      | _ => exact fun m' H' v q => h m' H' v (e.trans q)
  | exc x st => exact fun m' H' c d q => h m' H' c d (e.trans q)
  | stuck => exact h
theorem OutF.bind {m : Mp} {H : Hp} {σ : L2.St} {α β : Type} {rep : Mp → Hp → α → β → Prop} {Q : VK} {r : R α} {f : α → Sto → R Vv} {P : β → Hp → Prop} (h : OutF g m H σ Q (r.bind f))
    (k : ∀ x st m' H' v, r = .ok x st → Ext m H m' H' → Rel g.K m' st H' → rep m' H' x v → OutF g m' H' σ Q (f x st) → P v H') : Out g m H σ rep P r := by
  cases r with
  | ok x st => exact fun m' H' v e l q => k x st m' H' v rfl e l q (OutF.ext e h)
  | exc x st => exact h
  | stuck => exact h
theorem lf_of_le {f : En → Sto → R Vv} : ∀ σ H Q, LE g f σ H Q → LF g f σ H Q := by
  rintro σ H Q ⟨m, en, st, rel, re, out⟩
  refine ⟨m, en, st, rel, re, ?_⟩
  cases hf : f en st with
  | ok x st1 =>
    rw [hf] at out
    cases x with
    | ref n => exact out
    | exn z => exact out
    | d z => cases z with
      | lst ds => exact fun m' H' vs p e l r hl n => Giv.lst (K := g.K) (fun m2 H2 v e2 r2 q2 => out m2 H2 v (e.trans e2) r2 q2) l r hl n
      | _ => exact out
  | exc x st1 => rw [hf] at out; exact out
  | stuck => rw [hf] at out; exact out
theorem le_of_lf {f : En → Sto → R Vv} (h : PE X e (LF g f)) : PE X e (LE g f) := pe_weak h lf_of_le
theorem lf_of_ln {f : En → Sto → R Vv} : ∀ σ H Q, LE g (fun en st => (f en st).bind newV) σ H Q → LF g f σ H Q := by
  rintro σ H Q ⟨m, en, st, rel, re, out⟩
  refine ⟨m, en, st, rel, re, ?_⟩
  dsimp only at out
  cases hf : f en st with
  | ok x st1 =>
    rw [hf, bind_ok] at out
    cases x with
    | ref n => exact out.elim
    | exn z => exact out.elim
    | d z => cases z with
      | lst ds =>
        intro m' H' vs p e l r hl n
        obtain ⟨r1, e1⟩ := Rel.new (ob := .lst ds) l n ⟨vs, rfl, r, hl⟩
        refine out _ _ _ (e.trans e1) r1 ⟨p, ?_, rfl⟩
        rw [← l.len, List.getElem?_append_right (Nat.le_refl _)]
        simp
      | _ => exact out.elim
  | exc x st1 => rw [hf] at out; exact out
  | stuck => rw [hf] at out; exact out
theorem ln_of_lf {f : En → Sto → R Vv} (h : PE X e (LF g f)) : PE X e (LE g fun en st => (f en st).bind newV) := pe_weak h lf_of_ln
theorem out_op2F {m : Mp} {H : Hp} {σ : L2.St} {Q : VK} {f : D → D → Option D} {x y : Vv} {st : Sto} {v w : V} (rel : Rel g.K m st H) (rx : RepV g.K m H x v) (ry : RepV g.K m H y w) (h : OutF g m H σ Q (op2 f x y st)) : r2F g.K f v w H Q := by
  unfold op2 at h
  split at h
  · rename_i h1 h2
    unfold give at h
    split at h
    · rename_i z hz
      refine ⟨m, st, _, _, z, rel, der_rep rel h1 rx, der_rep rel h2 ry, hz, ?_⟩
      cases z with
      | lst ds => exact h
      | _ => exact h
    · exact h.elim
  · exact h.elim
theorem lf_bin (hK : g.K = X.K) {op : Operator} (ha : PE X a (LE g fa)) (hb : PE X b (LE g fb)) : PE X (.BinOp a op b pos) (LF g fun en st => (fa en st).bind fun x st => (fb en st).bind fun y st => op2 (binD op) x y st) := by
  refine pe_weak (pe_op (op_binF op) ha hb) ?_
  rintro σ H Q ⟨m, en, st, rel, re, out⟩
  refine ⟨m, en, st, rel, re, OutF.bind out fun x st1 m1 H1 v e1 x1 l1 rx o1 => ?_⟩
  refine ⟨m1, en, st1, l1, re.ext x1, OutF.bind o1 fun y st2 m2 H2 w e2 x2 l2 ry o2 => ?_⟩
  rw [← hK]
  exact out_op2F l2 (rx.ext x2) ry o2
theorem le_cmp (hK : g.K = X.K) (hu : X.A.units + 64 < cLine) {op : CmpOp} (ha : PE X a (LE g fa)) (hb : PE X b (LE g fb)) (hm : behindInMarks op b = false) : PE X (.Compare a [op] [b] pos) (LE g fun en st => (fa en st).bind fun x st => (fb en st).bind fun y st => cmpV op x y st) :=
  pe_weak (pe_cmpR (op_cmpD hu op) ha hb hm) (by rw [← hK]; exact two_op)
/-- a test of what an expression gives -/
def tt (f : En → Sto → R Vv) : En → Sto → R Bool := fun en st => (f en st).bind truV
theorem emp {α β : Type} {xs : List α} {ys : List β} (h : xs.length = ys.length) : (!xs.isEmpty) = !ys.isEmpty := by
  cases xs with
  | nil => cases ys with
    | nil => rfl
    | cons _ _ => cases h
  | cons _ _ => cases ys with
    | nil => cases h
    | cons _ _ => rfl
theorem tru_rep {K : PySem.W.Frag} {m : Mp} {H : Hp} {d : D} {v : V} {k : Bool} (h : RepR K m H d v) (e : truD d = some k) : TruV K v H k := by
  cases d <;> simp only [truD] at e <;> cases e
  · simp only [RepR, RepD] at h; subst h; rfl
  · simp only [RepR, RepD] at h; subst h; rfl
  · simp only [RepR, RepD] at h; subst h; rfl
  · simp only [RepR, RepD] at h; obtain ⟨rfl, l, _⟩ := h; exact ⟨l, rfl⟩
  · simp only [RepR, RepD] at h
    obtain ⟨a, vs, rfl, q, _, z, _⟩ := h
    refine .inr (.inl ⟨vs, same_tup hm_same q, ?_⟩)
    exact emp z.length
  · obtain ⟨a, vs, rfl, q, _, z⟩ := h
    refine .inl ⟨vs, q, ?_⟩
    exact emp z.length
  · simp only [RepR, RepD] at h
    obtain ⟨a, vs, rfl, q, l, z⟩ := h
    refine .inr (.inr ⟨_, hm_same _ _ q, ?_⟩)
    rename_i ks xs
    cases ks with
    | nil => rfl
    | cons k ks =>
      cases vs with
      | nil => cases l
      | cons v vs => rfl
theorem out_tru {m : Mp} {H : Hp} {σ : L2.St} {Q : Bool → Hp → Prop} {x : Vv} {st : Sto} {v : V} (rel : Rel g.K m st H) (rx : RepV g.K m H x v) (h : Out g m H σ (fun _ _ (a b : Bool) => a = b) Q (truV x st)) : ∃ k, TruV g.K v H k ∧ truV x st = .ok k st ∧ Q k H := by
  unfold truV at h ⊢
  split at h
  · rename_i d h1
    split at h
    · rename_i k h2
      exact ⟨k, tru_rep (der_rep rel h1 rx) h2, rfl, h m H k .refl rel rfl⟩
    · exact h.elim
  · exact h.elim
/-- a plain test -/
theorem lt_plain (hK : g.K = X.K) (ha : PE X a (LE g fa)) (he : ∀ whole, isTrue a X.env whole = (do let v ← whole; standAt a.pos; holding [v] (truthy v))) : PT X a (LT g (tt fa)) := by
  refine pt_weak (pt_truth ha he) ?_
  rintro σ H Q ⟨m, en, st, rel, re, out⟩
  refine ⟨m, en, st, rel, re, Out.bind out fun x st1 m1 H1 v e1 x1 l1 rx o1 => ?_⟩
  obtain ⟨k, h1, _, h3⟩ := out_tru l1 rx o1
  rw [hK] at h1
  exact ⟨k, h1, h3⟩
theorem lt_cmp (hK : g.K = X.K) (hu : X.A.units + 64 < cLine) {op : CmpOp} (ha : PE X a (LE g fa)) (hb : PE X b (LE g fb)) (hm : behindInMarks op b = false) : PT X (.Compare a [op] [b] pos) (LT g (tt fun en st => (fa en st).bind fun x st => (fb en st).bind fun y st => cmpV op x y st)) := by
  refine pt_weak (pt_cmpR (op_cmpD hu op) ha hb hm) ?_
  rintro σ H Q ⟨m, en, st, rel, re, out⟩
  unfold tt at out
  simp only [bind_assoc] at out
  refine ⟨m, en, st, rel, re, Out.bind out fun x st1 m1 H1 v e1 x1 l1 rx o1 => ?_⟩
  refine ⟨m1, en, st1, l1, re.ext x1, Out.bind o1 fun y st2 m2 H2 w e2 x2 l2 ry o2 => ?_⟩
  unfold cmpV op2 at o2
  split at o2
  · rename_i h1 h2
    unfold give at o2
    split at o2
    · rename_i z hz
      rw [← hK]
      refine ⟨m2, st2, _, _, z, l2, der_rep l2 h1 (rx.ext x2), der_rep l2 h2 ry, hz, fun m3 H3 u x3 l3 ru => ?_⟩
      obtain ⟨k, _, rfl⟩ := cmpO_some hz
      simp only [RepD] at ru
      exact ⟨k, ru, o2 m3 H3 k x3 l3 rfl⟩
    · exact o2.elim
  · exact o2.elim
theorem lt_not (ha : PT X a (LT g (tt fa))) : PT X (.UnaryOp .Not a pos) (LT g (tt fun en st => (fa en st).bind fun x st => (truV x st).bind fun k st => .ok (.d (.bl (!k))) st)) := by
  refine pt_weak (pt_not ha) ?_
  rintro σ H Q ⟨m, en, st, rel, re, out⟩
  unfold tt at out
  simp only [bind_assoc] at out
  unfold tNot
  refine ⟨m, en, st, rel, re, ?_⟩
  unfold tt
  rw [show ((fa en st).bind fun x st => (truV x st).bind fun k st => (R.ok (Vv.d (D.bl !k)) st).bind truV) = ((fa en st).bind truV).bind fun k st => R.ok (!k) st by rw [bind_assoc]; rfl] at out
  refine Out.bind out fun k st1 m1 H1 v e1 x1 l1 rk o1 => ?_
  subst rk
  exact o1 m1 H1 (!k) .refl l1 rfl
theorem tru_cases {K : PySem.W.Frag} {m : Mp} {H : Hp} {x : Vv} {st : Sto} {v : V} (rel : Rel K m st H) (rx : RepV K m H x v) : (∃ k, truV x st = .ok k st ∧ TruV K v H k) ∨ truV x st = .stuck := by
  unfold truV
  cases h1 : der st x with
  | none => exact .inr rfl
  | some d =>
    cases h2 : truD d with
    | none => exact .inr (by simp only [h2])
    | some k => exact .inl ⟨k, by simp only [h2], tru_rep (der_rep rel h1 rx) h2⟩
theorem le_not (hK : g.K = X.K) (ha : PE X a (LE g fa)) : PE X (.UnaryOp .Not a pos) (LE g fun en st => (fa en st).bind fun x st => (truV x st).bind fun k st => .ok (.d (.bl (!k))) st) := by
  refine pe_weak (pe_notT ha) ?_
  rintro σ H Q ⟨m, en, st, rel, re, out⟩
  refine ⟨m, en, st, rel, re, Out.bind out fun x st1 m1 H1 v e1 x1 l1 rx o1 => ?_⟩
  rcases tru_cases l1 rx with ⟨k, h1, h2⟩ | h1
  · rw [h1] at o1
    rw [hK] at h2
    exact ⟨k, h2, o1 m1 H1 _ .refl l1 (by simp only [RepV, RepD])⟩
  · rw [h1] at o1
    exact o1.elim
/-! ### and, or: from the right -/
theorem le_one {op : BoolOp} (ha : PE X a (LE g fa)) : PE X (.BoolOp op [a] pos) (LE g fa) := pe_one ha
theorem le_and {rest : List Expr} (hK : g.K = X.K) (ha : PE X a (LE g fa)) (hb : PE X (.BoolOp .And (b :: rest) pos) (LE g fb)) : PE X (.BoolOp .And (a :: b :: rest) pos) (LE g fun en st => (fa en st).bind fun x st => (truV x st).bind fun k st => if k then fb en st else .ok x st) := by
  refine pe_weak (pe_andT ha hb) ?_
  rintro σ H Q ⟨m, en, st, rel, re, out⟩
  refine ⟨m, en, st, rel, re, Out.bind out fun x st1 m1 H1 v e1 x1 l1 rx o1 => ?_⟩
  rcases tru_cases l1 rx with ⟨k, h1, h2⟩ | h1
  · rw [h1, bind_ok] at o1
    rw [hK] at h2
    refine ⟨k, h2, ?_⟩
    cases k with
    | true => exact ⟨m1, en, st1, l1, re.ext x1, o1⟩
    | false => exact o1 m1 H1 v .refl l1 rx
  · rw [h1] at o1
    exact o1.elim
theorem le_or {rest : List Expr} (hK : g.K = X.K) (ha : PE X a (LE g fa)) (hb : PE X (.BoolOp .Or (b :: rest) pos) (LE g fb)) : PE X (.BoolOp .Or (a :: b :: rest) pos) (LE g fun en st => (fa en st).bind fun x st => (truV x st).bind fun k st => if k then .ok x st else fb en st) := by
  refine pe_weak (pe_orT ha hb) ?_
  rintro σ H Q ⟨m, en, st, rel, re, out⟩
  refine ⟨m, en, st, rel, re, Out.bind out fun x st1 m1 H1 v e1 x1 l1 rx o1 => ?_⟩
  rcases tru_cases l1 rx with ⟨k, h1, h2⟩ | h1
  · rw [h1, bind_ok] at o1
    rw [hK] at h2
    refine ⟨k, h2, ?_⟩
    cases k with
    | true => exact o1 m1 H1 v .refl l1 rx
    | false => exact ⟨m1, en, st1, l1, re.ext x1, o1⟩
  · rw [h1] at o1
    exact o1.elim
theorem tru_ext {x : Vv} {st st' : Sto} {k : Bool} (h : truV x st = .ok k st') : st' = st := by
  unfold truV at h
  split at h
  · split at h <;> cases h
    rfl
  · cases h
theorem lw_one {op : BoolOp} (ha : PT X a (LT g (tt fa))) : PW X (.BoolOp op [a] pos) (LT g (tt fa)) := by
  cases op
  · exact pw_and1 ha
  · exact pw_or1 ha
theorem pw_weak {X : Cx} {e : Expr} {t t' : TT} (h : PW X e t) (k : ∀ σ H Q, t' σ H Q → t σ H Q) : PW X e t' := ⟨fun wh pins s σ H Q I q => h.run wh pins s σ H Q I (k σ H Q q)⟩
theorem lw_and {rest : List Expr} (ha : PT X a (LT g (tt fa))) (hb : PW X (.BoolOp .And (b :: rest) pos) (LT g (tt fb))) : PW X (.BoolOp .And (a :: b :: rest) pos) (LT g (tt fun en st => (fa en st).bind fun x st => (truV x st).bind fun k st => if k then fb en st else .ok x st)) := by
  refine pw_weak (pw_and ha hb) ?_
  rintro σ H Q ⟨m, en, st, rel, re, out⟩
  refine ⟨m, en, st, rel, re, ?_⟩
  unfold tt at out ⊢
  simp only [bind_assoc] at out
  have e : ((fa en st).bind fun x st => (truV x st).bind fun k st => (if k = true then fb en st else R.ok x st).bind truV) = ((fa en st).bind truV).bind fun k st => if k = true then (fb en st).bind truV else .ok false st := by
    rw [bind_assoc]
    cases fa en st with
    | ok x st1 =>
      simp only [bind_ok]
      cases h : truV x st1 with
      | ok k st2 =>
        simp only [bind_ok]
        cases k with
        | true => rfl
        | false =>
          simp only [Bool.false_eq_true, if_false, bind_ok]
          obtain rfl := tru_ext h
          exact h
      | exc _ _ => rfl
      | stuck => rfl
    | exc _ _ => rfl
    | stuck => rfl
  rw [e] at out
  refine Out.bind out fun k st1 m1 H1 v e1 x1 l1 rk o1 => ?_
  subst rk
  cases k with
  | true => exact ⟨m1, en, st1, l1, re.ext x1, o1⟩
  | false => exact o1 m1 H1 false .refl l1 rfl
theorem lw_or {rest : List Expr} (ha : PT X a (LT g (tt fa))) (hb : PW X (.BoolOp .Or (b :: rest) pos) (LT g (tt fb))) : PW X (.BoolOp .Or (a :: b :: rest) pos) (LT g (tt fun en st => (fa en st).bind fun x st => (truV x st).bind fun k st => if k then .ok x st else fb en st)) := by
  refine pw_weak (pw_or ha hb) ?_
  rintro σ H Q ⟨m, en, st, rel, re, out⟩
  refine ⟨m, en, st, rel, re, ?_⟩
  unfold tt at out ⊢
  simp only [bind_assoc] at out
  have e : ((fa en st).bind fun x st => (truV x st).bind fun k st => (if k = true then R.ok x st else fb en st).bind truV) = ((fa en st).bind truV).bind fun k st => if k = true then .ok true st else (fb en st).bind truV := by
    rw [bind_assoc]
    cases fa en st with
    | ok x st1 =>
      simp only [bind_ok]
      cases h : truV x st1 with
      | ok k st2 =>
        simp only [bind_ok]
        cases k with
        | false => rfl
        | true =>
          simp only [if_true, bind_ok]
          obtain rfl := tru_ext h
          exact h
      | exc _ _ => rfl
      | stuck => rfl
    | exc _ _ => rfl
    | stuck => rfl
  rw [e] at out
  refine Out.bind out fun k st1 m1 H1 v e1 x1 l1 rk o1 => ?_
  subst rk
  cases k with
  | false => exact ⟨m1, en, st1, l1, re.ext x1, o1⟩
  | true => exact o1 m1 H1 true .refl l1 rfl
theorem le_ite (hc : PT X c (LT g (tt fc))) (ha : PE X a (LE g fa)) (hb : PE X b (LE g fb)) : PE X (.IfExp c a b pos) (LE g fun en st => (fc en st).bind fun x st => (truV x st).bind fun k st => if k then fa en st else fb en st) := by
  refine pe_weak (pe_ifExp hc ha hb) ?_
  rintro σ H Q ⟨m, en, st, rel, re, out⟩
  refine ⟨m, en, st, rel, re, ?_⟩
  simp only [← bind_assoc] at out
  have out : Out g m H σ (RepV g.K) Q ((tt fc en st).bind fun k st => if k = true then fa en st else fb en st) := out
  refine Out.bind out fun k st1 m1 H1 v e1 x1 l1 rk o1 => ?_
  subst rk
  cases k with
  | true => exact ⟨m1, en, st1, l1, re.ext x1, o1⟩
  | false => exact ⟨m1, en, st1, l1, re.ext x1, o1⟩
/-! ### names, constants -/
theorem le_var {i : Nat} {x : Str} (hN : X.N[i]? = some x) (hv : Vis X.env.scope x) (hd : (x == ("__debug__" : Str)) = false) (hcd : (x == ("__classdict__" : Str)) = false) : PE X (.Name x pos) (LE g fun en st => match en[i]? with | some (some v) => .ok v st | _ => .stuck) := by
  refine pe_weak (pe_var hN hv hd hcd) ?_
  rintro σ H Q ⟨m, en, st, rel, re, out⟩
  dsimp only at out
  split at out
  · rename_i v h
    obtain ⟨w, e, r⟩ := re.2 i v h
    exact ⟨w, e, out m H w .refl rel r⟩
  · exact out.elim
theorem le_con {d : D} {v : V} (h : PE X e (tC v)) (r : ∀ H, RepD g.K H d v) : PE X e (LE g fun _ st => .ok (.d d) st) := by
  refine pe_weak h ?_
  rintro σ H Q ⟨m, en, st, rel, re, out⟩
  exact out m H v .refl rel (r _)
theorem le_neg (ha : PE X a (LE g fa)) : PE X (.UnaryOp .USub a pos) (LE g fun en st => (fa en st).bind fun x st => match x with | .d (.int i) => .ok (.d (.int (-i))) st | _ => .stuck) := by
  refine pe_weak (pe_un un_neg ha) ?_
  rintro σ H Q ⟨m, en, st, rel, re, out⟩
  refine ⟨m, en, st, rel, re, Out.bind out fun x st1 m1 H1 v e1 x1 l1 rx o1 => ?_⟩
  split at o1
  · rename_i i
    simp only [RepV, RepD] at rx
    exact ⟨i, rx, o1 m1 H1 _ .refl l1 (by simp only [RepV, RepD])⟩
  · exact o1.elim
/-! ### arguments, displays -/
theorem la_nil : PA X [] (LA g fun _ st => .ok [] st) := by
  refine pa_weak pa_nil ?_
  rintro σ H Q ⟨m, en, st, rel, re, out⟩
  exact out m H [] .refl rel .nil
theorem la_cons {es : List Expr} {fr : En → Sto → R (List Vv)} (ha : PE X a (LE g fa)) (hr : PA X es (LA g fr)) (hs : starEach (a :: es) X.env = (false, eval a X.env) :: starEach es X.env) : PA X (a :: es) (LA g fun en st => (fa en st).bind fun x st => (fr en st).bind fun xs st => .ok (x :: xs) st) := by
  refine pa_weak (pa_cons ha hr hs) ?_
  rintro σ H Q ⟨m, en, st, rel, re, out⟩
  refine ⟨m, en, st, rel, re, Out.bind out fun x st1 m1 H1 v e1 x1 l1 rx o1 => ?_⟩
  refine ⟨m1, en, st1, l1, re.ext x1, Out.bind o1 fun y st2 m2 H2 w e2 x2 l2 ry o2 => ?_⟩
  exact o2 m2 H2 (v :: w) .refl l2 (.cons (rx.ext x2) ry)
theorem pures_rep {K : PySem.W.Frag} {m : Mp} {H : Hp} : ∀ {xs : List Vv} {vs : List V} {ds : List D}, pures xs = some ds → RepVs K m H xs vs → RepDs K (hm m H) ds vs
  | [], _, _, e, .nil => by simp only [pures, Option.some.injEq] at e; subst e; exact .nil
  | .d x :: xs, _, _, e, .cons h t => by
    simp only [pures] at e
    split at e <;> cases e
    exact .cons h (pures_rep (by assumption) t)
  | .ref _ :: xs, _, _, e, _ => by simp only [pures] at e; cases e
theorem le_tup {es : List Expr} {k : Nat} {fr : En → Sto → R (List Vv)} (hr : PA X es (LA g fr)) : PE X (.Tuple es k pos) (LE g fun en st => (fr en st).bind fun vs st => match pures vs with | some xs => if xs.length ≤ sizeLine then .ok (.d (.tup xs)) st else .stuck | none => .stuck) := by
  refine pe_weak (pe_tup hr) ?_
  rintro σ H Q ⟨m, en, st, rel, re, out⟩
  refine ⟨m, en, st, rel, re, Out.bind out fun x st1 m1 H1 v e1 x1 l1 rx o1 => ?_⟩
  split at o1
  · rename_i ds hd
    split at o1
    · rename_i hl
      have r := pures_rep hd rx
      refine ⟨by rw [← r.length]; exact hl, fun p n => ?_⟩
      exact Giv.tup (K := g.K) (fun m' H' v e r q => o1 m' H' v e r q) l1 r hl n
    · exact o1.elim
  · exact o1.elim
theorem lf_lst {es : List Expr} {fr : En → Sto → R (List Vv)} (hr : PA X es (LA g fr)) : PE X (.List es pos) (LF g fun en st => (fr en st).bind fun vs st => match pures vs with | some xs => if xs.length ≤ sizeLine then .ok (.d (.lst xs)) st else .stuck | none => .stuck) := by
  refine pe_weak (pe_lst hr) ?_
  rintro σ H Q ⟨m, en, st, rel, re, out⟩
  refine ⟨m, en, st, rel, re, OutF.bind out fun x st1 m1 H1 v e1 x1 l1 rx o1 => ?_⟩
  split at o1
  · rename_i ds hd
    split at o1
    · rename_i hl
      have r := pures_rep hd rx
      exact ⟨by rw [← r.length]; exact hl, fun p n => o1 m1 H1 v p .refl l1 r hl n⟩
    · exact o1.elim
  · exact o1.elim
end TW
namespace TW
open PySem PySem.Spec PyProof.Rows L2
variable {X : Cx} {g : Gx} {a b c e : Expr} {pos : Pos} {fa fb fc : En → Sto → R Vv}

theorem cmpV_ok {op : CmpOp} {x y : Vv} {st : Sto} : (∃ a b k, der st x = some a ∧ der st y = some b ∧ cmpD op a b = some k ∧ cmpV op x y st = .ok (.d (.bl k)) st) ∨ cmpV op x y st = .stuck := by
  unfold cmpV op2
  cases h1 : der st x with
  | none => exact .inr rfl
  | some a =>
    cases h2 : der st y with
    | none => exact .inr rfl
    | some b =>
      cases h3 : cmpD op a b with
      | none => exact .inr (by simp only [h3, give])
      | some k => exact .inl ⟨a, b, k, rfl, rfl, h3, by simp only [h3, give]⟩
theorem cmp_r2 {op : CmpOp} {K : PySem.W.Frag} {m : Mp} {H : Hp} {st : Sto} {x y : Vv} {v w : V} {a b : D} {k : Bool} {Q : VK} (rel : Rel K m st H) (rx : RepV K m H x v) (ry : RepV K m H y w) (h1 : der st x = some a) (h2 : der st y = some b) (h3 : cmpD op a b = some k)
    (q : Giv K m H st (.bl k) Q) : r2 K (cmpO op) v w H Q := ⟨m, st, a, b, .bl k, rel, der_rep rel h1 rx, der_rep rel h2 ry, by unfold cmpO; rw [h3], q⟩
def chn (p q : CmpOp) (fa fb fc : En → Sto → R Vv) : En → Sto → R Vv := fun en st => (fa en st).bind fun x st => (fb en st).bind fun y st => (cmpV p x y st).bind fun k st =>
      match k with
      | .d (.bl true) => (fc en st).bind fun z st => cmpV q y z st
      | .d (.bl false) => .ok (.d (.bl false)) st
      | _ => .stuck
theorem le_chain (hK : g.K = X.K) (hu : X.A.units + 64 < cLine) {p q : CmpOp} (ha : PE X a (LE g fa)) (hb : PE X b (LE g fb)) (hc : PE X c (LE g fc)) (hm : lastMarks [p, q] [b, c] = false) : PE X (.Compare a [p, q] [b, c] pos) (LE g (chn p q fa fb fc)) := by
  refine pe_weak (pe_chain (op_cmpD hu p) (op_cmpD hu q) ha hb hc hm) ?_
  rintro σ H Q ⟨m, en, st, rel, re, out⟩
  refine ⟨m, en, st, rel, re, Out.bind out fun x st1 m1 H1 v e1 x1 l1 rx o1 => ?_⟩
  refine ⟨m1, en, st1, l1, re.ext x1, Out.bind o1 fun y st2 m2 H2 w e2 x2 l2 ry o2 => ?_⟩
  rw [← hK]
  rcases cmpV_ok (op := p) (x := x) (y := y) (st := st2) with ⟨a', b', k, d1, d2, d3, d4⟩ | d4
  · rw [d4, bind_ok] at o2
    refine cmp_r2 l2 (rx.ext x2) ry d1 d2 d3 fun m3 H3 u x3 l3 ru => ?_
    simp only [RepD] at ru
    refine ⟨k, ru, ?_⟩
    cases k with
    | false => exact o2 m3 H3 _ x3 l3 (by simp only [RepV, RepD])
    | true =>
      refine ⟨m3, en, st2, l3, ((re.ext x1).ext x2).ext x3, Out.bind (Out.ext x3 o2) fun z st4 m4 H4 w4 e4 x4 l4 rz o4 => ?_⟩
      exact out_op2 l4 ((ry.ext x3).ext x4) rz o4
  · rw [d4] at o2; exact o2.elim
theorem lt_chain (hK : g.K = X.K) (hu : X.A.units + 64 < cLine) {p q : CmpOp} (ha : PE X a (LE g fa)) (hb : PE X b (LE g fb)) (hc : PE X c (LE g fc)) (hm : lastMarks [p, q] [b, c] = false) : PT X (.Compare a [p, q] [b, c] pos) (LT g (tt (chn p q fa fb fc))) := by
  refine pt_weak (pt_chain (op_cmpD hu p) (op_cmpD hu q) ha hb hc hm) ?_
  rintro σ H Q ⟨m, en, st, rel, re, out⟩
  unfold tt chn at out
  simp only [bind_assoc] at out
  refine ⟨m, en, st, rel, re, Out.bind out fun x st1 m1 H1 v e1 x1 l1 rx o1 => ?_⟩
  refine ⟨m1, en, st1, l1, re.ext x1, Out.bind o1 fun y st2 m2 H2 w e2 x2 l2 ry o2 => ?_⟩
  rw [← hK]
  rcases cmpV_ok (op := p) (x := x) (y := y) (st := st2) with ⟨a', b', k, d1, d2, d3, d4⟩ | d4
  · rw [d4, bind_ok] at o2
    refine cmp_r2 l2 (rx.ext x2) ry d1 d2 d3 fun m3 H3 u x3 l3 ru => ?_
    simp only [RepD] at ru
    refine ⟨k, ru, ?_⟩
    cases k with
    | false => exact ⟨false, rfl, o2 m3 H3 _ x3 l3 rfl⟩
    | true =>
      simp only [bind_assoc] at o2
      refine ⟨m3, en, st2, l3, ((re.ext x1).ext x2).ext x3, Out.bind (Out.ext x3 o2) fun z st4 m4 H4 w4 e4 x4 l4 rz o4 => ?_⟩
      rcases cmpV_ok (op := q) (x := y) (y := z) (st := st4) with ⟨a5, b5, k5, d5, d6, d7, d8⟩ | d8
      · rw [d8, bind_ok] at o4
        refine cmp_r2 l4 ((ry.ext x3).ext x4) rz d5 d6 d7 fun m5 H5 u5 x5 l5 ru5 => ?_
        simp only [RepD] at ru5
        exact ⟨k5, ru5, o4 m5 H5 _ x5 l5 rfl⟩
      · rw [d8] at o4; exact o4.elim
  · rw [d4] at o2; exact o2.elim

/-! ### built-in calls, by data -/
def rn (K : PySem.W.Frag) (f : List D → Option D) : List V → Hp → VK → Prop := fun vs H Q => ∃ m st xs z, Rel K m st H ∧ Paired (RepR K m H) xs vs ∧ f xs = some z ∧ Giv K m H st z Q
theorem out_opn {m : Mp} {H : Hp} {σ : L2.St} {Q : VK} {f : List D → Option D} {xs : List Vv} {st : Sto} {vs : List V} (rel : Rel g.K m st H) (rx : RepVs g.K m H xs vs) (h : Out g m H σ (RepV g.K) Q (opn f xs st)) : rn g.K f vs H Q := by
  unfold opn at h
  split at h
  · rename_i h1
    obtain ⟨z, e, q⟩ := out_give h
    exact ⟨m, st, _, z, rel, ders_rep rel h1 rx, e, q⟩
  · exact h.elim
theorem p1 {α β : Type} {F : α → β → Prop} {x : α} {vs : List β} (h : Paired F [x] vs) : ∃ v, vs = [v] ∧ F x v := by
  cases h with | cons p q => cases q; exact ⟨_, rfl, p⟩
theorem p2 {α β : Type} {F : α → β → Prop} {x y : α} {vs : List β} (h : Paired F [x, y] vs) : ∃ v w, vs = [v, w] ∧ F x v ∧ F y w := by
  cases h with | cons p q => cases q with | cons p' q' => cases q'; exact ⟨_, _, rfl, p, p'⟩
theorem rep_str {K : PySem.W.Frag} {m : Mp} {H : Hp} {s : Str} {v : V} (h : RepR K m H (.str s) v) : v = .str s ∧ s.length ≤ sizeLine ∧ PyData.strOk s = true := by simpa only [RepR, RepD] using h
theorem rep_int {K : PySem.W.Frag} {m : Mp} {H : Hp} {i : Int} {v : V} (h : RepR K m H (.int i) v) : v = .int i := by simpa only [RepR, RepD] using h
theorem rep_tup {K : PySem.W.Frag} {m : Mp} {H : Hp} {xs : List D} {v : V} (h : RepR K m H (.tup xs) v) : ∃ a vs, v = .ref a ∧ SqT K (hm m H) a vs ∧ xs.length ≤ sizeLine ∧ RepDs K (hm m H) xs vs := by
  have h : RepD K (hm m H) (.tup xs) v := by simpa only [RepR] using h
  simp only [RepD] at h
  obtain ⟨a, vs, h1, h2, h3, h4, _⟩ := h
  exact ⟨a, vs, h1, h2, h3, h4⟩
theorem rep_tupd {K : PySem.W.Frag} {m : Mp} {H : Hp} {xs : List D} {v : V} (h : RepR K m H (.tup xs) v) : RepD K (hm m H) (.tup xs) v := by simpa only [RepR] using h
theorem rep_lst {K : PySem.W.Frag} {m : Mp} {H : Hp} {xs : List D} {v : V} (h : RepR K m H (.lst xs) v) : ∃ a vs, v = .ref a ∧ SqL K H a vs ∧ xs.length ≤ sizeLine ∧ RepDs K (hm m H) xs vs := h
theorem cr_len : CallR X (.builtin "len") (rn X.K lenD) := by
  intro pins s σ H vs us Q I r h
  obtain ⟨m, st, xs, z, rel, rs, e, q⟩ := h
  unfold lenD at e
  split at e <;> cases e
  · obtain ⟨v, rfl, rv⟩ := p1 rs
    obtain ⟨rfl, l, _⟩ := rep_str rv
    exact call_len pins s σ H _ us Q I r ⟨_, _, rfl, ⟨l, rfl⟩, q.int rel⟩
  · obtain ⟨v, rfl, rv⟩ := p1 rs
    obtain ⟨p, ws, rfl, h1, l, h2⟩ := rep_lst rv
    exact call_len pins s σ H _ us Q I r ⟨_, _, rfl, .inl ⟨ws, h1, rfl⟩, by rw [← h2.length]; exact q.int rel⟩
  · obtain ⟨v, rfl, rv⟩ := p1 rs
    obtain ⟨p, ws, rfl, h1, l, h2⟩ := rep_tup rv
    exact call_len pins s σ H _ us Q I r ⟨_, _, rfl, .inr ⟨ws, same_tup hm_same h1, rfl⟩, by rw [← h2.length]; exact q.int rel⟩
theorem cr_absD : CallR X (.builtin "abs") (rn X.K absD) := by
  intro pins s σ H vs us Q I r h
  obtain ⟨m, st, xs, z, rel, rs, e, q⟩ := h
  unfold absD at e
  split at e <;> cases e
  obtain ⟨v, rfl, rv⟩ := p1 rs
  rw [rep_int rv] at r
  exact call_abs pins s σ H _ us Q I r ⟨_, rfl, q.int rel⟩
theorem cr_maxD (hc : X.calm = true) : CallR X (.builtin "max") (rn X.K maxD) := by
  intro pins s σ H vs us Q I r h
  obtain ⟨m, st, xs, z, rel, rs, e, q⟩ := h
  unfold maxD at e
  split at e <;> cases e
  obtain ⟨v, w, rfl, rv, rw'⟩ := p2 rs
  rw [rep_int rv, rep_int rw'] at r
  exact call_max2 hc pins s σ H _ us Q I r ⟨_, _, rfl, q.int rel⟩
theorem cr_minD (hc : X.calm = true) : CallR X (.builtin "min") (rn X.K minD) := by
  intro pins s σ H vs us Q I r h
  obtain ⟨m, st, xs, z, rel, rs, e, q⟩ := h
  unfold minD at e
  split at e <;> cases e
  obtain ⟨v, w, rfl, rv, rw'⟩ := p2 rs
  rw [rep_int rv, rep_int rw'] at r
  exact call_min2 hc pins s σ H _ us Q I r ⟨_, _, rfl, q.int rel⟩
theorem cr_dmD : CallR X (.builtin "divmod") (rn X.K dmD) := by
  intro pins s σ H vs us Q I r h
  obtain ⟨m, st, xs, z, rel, rs, e, q⟩ := h
  unfold dmD at e
  split at e
  · split at e <;> cases e
    rename_i hj
    obtain ⟨v, w, rfl, rv, rw'⟩ := p2 rs
    rw [rep_int rv, rep_int rw'] at r
    exact call_divmodW pins s σ H _ us Q I r ⟨_, _, rfl, ⟨hj.1, noPylong_neg hj.2⟩, fun p n => q.tup rel (.cons (by simp only [RepD]) (.cons (by simp only [RepD]) .nil)) (by simp [sizeLine_eq]) n⟩
  · cases e
theorem bools_rep {K : PySem.W.Frag} {H : Hp} : ∀ {xs : List D} {vs : List V} {bs : List Bool}, bools xs = some bs → RepDs K H xs vs → vs = bs.map V.bl
  | [], _, _, e, h => by simp only [bools, Option.some.injEq] at e; subst e; simp only [RepDs] at h; exact h
  | .bl b :: xs, _, _, e, h => by
    obtain ⟨v, r, rfl, p, q⟩ := h.uncons
    simp only [bools] at e
    split at e <;> cases e
    simp only [RepD] at p
    rw [p, bools_rep (by assumption) q]
    rfl
  | .non :: xs, _, _, e, h => by simp only [bools] at e; cases e
  | .int _ :: xs, _, _, e, h => by simp only [bools] at e; cases e
  | .str _ :: xs, _, _, e, h => by simp only [bools] at e; cases e
  | .tup _ :: xs, _, _, e, h => by simp only [bools] at e; cases e
  | .lst _ :: xs, _, _, e, h => by simp only [bools] at e; cases e
  | .dct _ _ :: xs, _, _, e, h => by simp only [bools] at e; cases e
theorem cr_allD (hc : X.calm = true) : CallR X (.builtin "all") (rn X.K allD) := by
  intro pins s σ H vs us Q I r h
  obtain ⟨m, st, xs, z, rel, rs, e, q⟩ := h
  unfold allD at e
  split at e
  · split at e <;> cases e
    rename_i hb
    obtain ⟨v, rfl, rv⟩ := p1 rs
    obtain ⟨p, ws, rfl, h1, l, h2⟩ := rep_lst rv
    rw [bools_rep hb h2] at h1
    exact cr_all hc pins s σ H _ us Q I r ⟨p, _, rfl, h1, q.bl rel⟩
  · cases e
theorem cr_anyD (hc : X.calm = true) : CallR X (.builtin "any") (rn X.K anyD) := by
  intro pins s σ H vs us Q I r h
  obtain ⟨m, st, xs, z, rel, rs, e, q⟩ := h
  unfold anyD at e
  split at e
  · split at e <;> cases e
    rename_i hb
    obtain ⟨v, rfl, rv⟩ := p1 rs
    obtain ⟨p, ws, rfl, h1, l, h2⟩ := rep_lst rv
    rw [bools_rep hb h2] at h1
    exact cr_any hc pins s σ H _ us Q I r ⟨p, _, rfl, h1, q.bl rel⟩
  · cases e
theorem ty_rep {K : PySem.W.Frag} {m : Mp} {H : Hp} {d : D} {v : V} (h : RepR K m H d v) : TyX K H v (.type (tyD d)) := by
  cases d with
  | non => simp only [RepR, RepD] at h; subst h; exact .base .non
  | bl b => simp only [RepR, RepD] at h; subst h; exact .base (.bl _)
  | int i => simp only [RepR, RepD] at h; subst h; exact .base (.int _)
  | str s => obtain ⟨rfl, _⟩ := rep_str h; exact .base (.str _)
  | tup xs =>
    obtain ⟨a, vs, rfl, q, _⟩ := rep_tup h
    rcases same_tup hm_same q with q | ⟨o, _, _, hk, hc, _⟩
    · rcases q with q | ⟨o, q⟩
      · exact .base (.tup q)
      · exact .fTuple q
    · exact .kTuple hk hc
  | lst xs =>
    obtain ⟨a, vs, rfl, q, _⟩ := rep_lst h
    rcases q with q | ⟨o, _, _, hk, hc, _⟩
    · rcases q with q | ⟨o, q⟩
      · exact .base (.lst q)
      · exact .base (.frz q)
    · exact .kList hk hc
  | dct ks xs =>
    simp only [RepR, RepD] at h
    obtain ⟨a, vs, rfl, q, _⟩ := h
    exact .base (.dK (hm_same _ _ q))
def tyOk (t : String) : Bool := ["int", "str", "bool", "tuple", "list", "dict"].contains t
theorem kit_all : (["NoneType", "bool", "int", "str", "tuple", "list", "dict"].all fun n => ["int", "str", "bool", "tuple", "list", "dict"].all fun t => kitB n t == some (isiN n t)) = true := by decide +kernel
theorem tyD_mem (d : D) : tyD d ∈ ["NoneType", "bool", "int", "str", "tuple", "list", "dict"] := by
  cases d <;> simp [tyD]
theorem isi_kit {d : D} {t : String} (h : tyOk t = true) : kitB (tyD d) t = some (isiN (tyD d) t) := by
  have h3 := List.all_eq_true.mp kit_all _ (tyD_mem d)
  have h4 := List.all_eq_true.mp h3 t (by simpa [tyOk] using h)
  simpa using h4
theorem le_isi (hK : g.K = X.K) {x : Str} {t : String} {p q : Pos} (hg : Gl X "isinstance") (hm : X.mg "isinstance" = none) (ha : PE X a (LE g fa)) (hs : starEach [a, .Name x q] X.env = (false, eval a X.env) :: starEach [.Name x q] X.env)
    (hs2 : (backTo pos (starEach [.Name x q] X.env)).any (·.1) = false) (hs3 : starEach [.Name x q] X.env = (false, eval (.Name x q) X.env) :: starEach [] X.env)
    (ht : PE X (.Name x q) (tC (.ty t))) (ok : tyOk t = true) : PE X (.Call (.Name "isinstance" p) [a, .Name x q] [] pos) (LE g fun en st => (fa en st).bind fun x st => op1 (fun d => some (isiD t d)) x st) := by
  refine pe_weak (pe_callB call_isi hg hm (by decide +kernel) (pa_cons ha (pa_cons ht pa_nil hs3) hs) (by decide) (by decide) hs hs2) ?_
  rintro σ H Q ⟨m, en, st, rel, re, out⟩
  refine ⟨m, en, st, rel, re, Out.bind out fun y st1 m1 H1 v e1 x1 l1 rx o1 => ?_⟩
  unfold op1 at o1
  split at o1
  · rename_i d hd
    refine ⟨v, .ty t, _, _, _, rfl, .ty _, hK ▸ ty_rep (der_rep l1 hd rx), kit_ty (isi_kit (d := d) ok), ?_⟩
    exact o1 m1 H1 _ .refl l1 (by simp only [isiD, RepV, RepD])
  · exact o1.elim
theorem reps_chars {K : PySem.W.Frag} {H : Hp} : ∀ {cs : List Nat}, (∀ c ∈ cs, c < 0x110000) → RepDs K H (cs.map fun c => D.str ⟨#[c]⟩) (cs.map fun c => V.str ⟨#[c]⟩)
  | [], _ => .nil
  | c :: cs, h => .cons (by
      simp only [RepD]
      refine ⟨trivial, by show 1 ≤ sizeLine; rw [sizeLine_eq]; decide, ?_⟩
      unfold PyData.strOk
      have := h c (by simp)
      simp [this]) (reps_chars fun d hd => h d (List.mem_cons_of_mem _ hd))
theorem chars_vals {x : Str} {acc : Array Value} (it : ItemsOf (SignAt x) acc x.cps.size) : Vals (x.cps.toList.map fun c => V.str ⟨#[c]⟩) acc.toList := by
  have key : ∀ {us : List Value} {vs : List V}, vs.length = us.length → (∀ (i : Nat) v u, vs[i]? = some v → us[i]? = some u → RelV v u) → Vals vs us := by
    intro us
    induction us with
    | nil => intro vs hl _; cases vs with | nil => exact .nil | cons _ _ => simp at hl
    | cons u us ih =>
      intro vs hl h
      cases vs with
      | nil => simp at hl
      | cons v vs => exact .cons (h 0 v u rfl rfl) (ih (by simpa using hl) fun i a b h1 h2 => h (i + 1) a b (by simpa using h1) (by simpa using h2))
  refine key (by rw [List.length_map, Array.length_toList, Array.length_toList, it.1]) fun i v u h1 h2 => ?_
  rw [List.getElem?_map] at h1
  obtain ⟨c, hc, rfl⟩ := Option.map_eq_some_iff.mp h1
  obtain ⟨c', t, e1, e2⟩ := it.2 i u (by rw [← Array.getElem?_toList]; exact h2)
  rw [← Array.getElem?_toList, hc] at e1
  cases e1
  exact ⟨t, e2⟩
theorem cr_tupD (hc : X.calm = true) : CallR X (.type "tuple") (rn X.K tupD) := by
  intro pins s σ H vs us Q I r h
  obtain ⟨m, st, xs, z, rel, rs, e, q⟩ := h
  unfold tupD at e
  split at e <;> cases e
  · obtain ⟨v, rfl, rv⟩ := p1 rs
    obtain ⟨p, ws, rfl, h1, l, h2⟩ := rep_lst rv
    exact call_tuple_of pins s σ H _ us Q I r ⟨p, ws, rfl, .inl ⟨h1, fun p n => q.tup rel h2 l n⟩⟩
  · obtain ⟨v, rfl, rv⟩ := p1 rs
    have rd := rep_tupd rv
    obtain ⟨p, ws, rfl, h1, l, h2⟩ := rep_tup rv
    exact call_tuple_of pins s σ H _ us Q I r ⟨p, ws, rfl, .inr ⟨same_tup hm_same h1, q.now rel rd⟩⟩
  · obtain ⟨v, rfl, rv⟩ := p1 rs
    rename_i x
    obtain ⟨rfl, l, o⟩ := rep_str rv
    obtain ⟨u, rfl, ru⟩ := r.one
    obtain ⟨tk0, rfl⟩ := (show ∃ t, u = Value.str x t from ru)
    refine call_tuple_str (hsz := l) (I.ok.hd hc) x tk0 fun h' tk acc hk it => ?_
    have hv := chars_vals it
    have hlen : (x.cps.toList.map fun c => V.str ⟨#[c]⟩).length ≤ sizeLine := by rw [List.length_map]; exact l
    have I1 : Inv X pins σ H { s with heap := h', toks := tk } := I.kept (t' := tk) hk
    have hok : ∀ c ∈ x.cps.toList, c < 0x110000 := by
      intro c hc
      unfold PyData.strOk at o
      rw [Array.all_eq_true_iff_forall_mem] at o
      have := o c (by simpa using hc)
      simpa using this
    have I2 : Inv X pins σ (upd H h'.objs.size (.tup (x.cps.toList.map fun c => V.str ⟨#[c]⟩))) { s with heap := h'.push { cls := .type "tuple", data := .seq acc }, toks := tk } :=
      I1.laid (t' := tk) (fun b o e => Heap.get?_push_of_some _ e) (Nat.le_refl _) ⟨hlen, acc.toList, hv, by have := IsTup.new h' acc; simpa using this⟩
    exact ⟨.ref h'.objs.size, _, I2, rfl, q.tup rel (reps_chars hok) (by rw [List.length_map]; exact l) (I1.hok.fresh (Nat.le_refl _))⟩
/-- list(..) is new -/
def rnF (K : PySem.W.Frag) (f : List D → Option D) : List V → Hp → VK → Prop := fun vs H Q => ∃ m st xs z, Rel K m st H ∧ Paired (RepR K m H) xs vs ∧ f xs = some z ∧ GivF K m H st z Q
theorem cr_lstF : CallR X (.type "list") (rnF X.K lstD) := by
  intro pins s σ H vs us Q I r h
  obtain ⟨m, st, xs, z, rel, rs, e, q⟩ := h
  unfold lstD at e
  split at e <;> cases e
  · obtain ⟨v, rfl, rv⟩ := p1 rs
    obtain ⟨p, ws, rfl, h1, l, h2⟩ := rep_lst rv
    exact call_list_of pins s σ H _ us Q I r ⟨p, ws, rfl, .inl h1, fun p n => q m H _ p .refl rel h2 l n⟩
  · obtain ⟨v, rfl, rv⟩ := p1 rs
    obtain ⟨p, ws, rfl, h1, l, h2⟩ := rep_tup rv
    exact call_list_of pins s σ H _ us Q I r ⟨p, ws, rfl, .inr (same_tup hm_same h1), fun p n => q m H _ p .refl rel h2 l n⟩
/-- a built-in's name, its kind -/
theorem cr_intD {X : Cx} : CallR X (.type "int") (rn X.K intD) := by
  intro pins s σ H vs us Q I r h
  obtain ⟨m, st, xs, z, rel, rs, e, q⟩ := h
  unfold intD at e
  split at e <;> cases e
  · obtain ⟨v, rfl, rv⟩ := p1 rs
    have := rep_int rv
    subst this
    exact call_int1 pins s σ H _ us Q I r (.inl ⟨_, rfl, q.int rel⟩)
  · obtain ⟨v, rfl, rv⟩ := p1 rs
    simp only [RepR, RepD] at rv
    subst rv
    exact call_int1 pins s σ H _ us Q I r (.inr ⟨_, rfl, q.int rel⟩)
theorem int_txt {i : Int} (h : i.natAbs.log2 < 1920) : (Str.ofString (toString i)).length ≤ sizeLine ∧ PyData.strOk (Str.ofString (toString i)) = true := by
  have h1 : (Str.ofString (toString i)).length ≤ i.natAbs.log2 + 3 := int_len
  exact ⟨by rw [sizeLine_eq]; omega, ok_of _⟩
theorem cr_strD {X : Cx} : CallR X (.type "str") (rn X.K strD) := by
  intro pins s σ H vs us Q I r h
  obtain ⟨m, st, xs, z, rel, rs, e, q⟩ := h
  unfold strD at e
  split at e
  · split at e <;> cases e
    rename_i hi
    obtain ⟨v, rfl, rv⟩ := p1 rs
    have := rep_int rv
    subst this
    obtain ⟨t1, t2⟩ := int_txt hi
    exact call_str_int pins s σ H _ us Q I r ⟨_, rfl, hi, q.str rel t1 t2⟩
  · cases e
    obtain ⟨v, rfl, rv⟩ := p1 rs
    obtain ⟨rfl, l1, o1⟩ := rep_str rv
    exact SkE.call_str_str pins s σ H _ us Q I r ⟨_, rfl, q.str rel l1 o1⟩
  · cases e
def bfName : Bf → Str
  | .len => "len" | .abs => "abs" | .max2 => "max" | .min2 => "min" | .divmod => "divmod" | .all => "all" | .any => "any" | .tupleOf => "tuple" | .listOf => "list" | .intOf => "int" | .reprOf => "repr" | .sortedOf => "sorted" | .strOf => "str"
def rnG (K : PySem.W.Frag) (f : Bf) : List V → Hp → VK → Prop := fun vs H Q => ∃ m st xs z, Rel K m st H ∧ Paired (RepR K m H) xs vs ∧ bfD f xs = some z ∧ GivF K m H st z Q
theorem giv_of_f {K : PySem.W.Frag} {m : Mp} {H : Hp} {st : Sto} {z : D} {Q : VK} (n : ∀ ds, z ≠ .lst ds) (q : GivF K m H st z Q) : Giv K m H st z Q := q.weak n
end TW
namespace TW
open PySem PySem.Spec PyProof.Rows L2
variable {X : Cx} {pins : List (Addr × Obj)} {σ : L2.St} {H : Hp} {s : Shared}
theorem cr_reprD (gd : X.A.guards = some []) (hu : X.A.units + 70 < cLine) : CallR X (.builtin "repr") (rn X.K reprD) := by
  intro pins s σ H vs us Q I r h
  obtain ⟨m, st, xs, z, rel, rs, e, q⟩ := h
  unfold reprD at e
  split at e
  · rename_i d
    split at e <;> cases e
    rename_i hc
    obtain ⟨c1, c2, c3, c4⟩ := hc
    obtain ⟨v, rfl, rv⟩ := p1 rs
    obtain ⟨u, rfl, ru⟩ := vals1 r
    have rd := rv.d
    obtain ⟨k1, k2⟩ := shown_ok d v rd c1
    have hz : (toPyT d).shown.length ≤ sizeLine := by rw [sizeLine_eq]; omega
    have fin := q.str rel hz k1
    obtain ⟨as, g1, g2⟩ := reads_of I d v u rd ru
    have hq : ∀ h2 t2 tk, (∀ b o, s.heap.get? b = some o → h2.get? b = some o) → EP X pins σ Q (.str (toPyT d).shown t2) { s with heap := h2, toks := tk } := fun h2 t2 tk hk => ⟨.str _, H, I.kept hk, ⟨_, rfl⟩, fin⟩
    cases d with
    | non => simp only [RepD] at rd; subst rd; cases ru; exact PySem.P.repr_of_none (hq s.heap _ _ fun _ _ z => z)
    | bl b => simp only [RepD] at rd; subst rd; cases ru; exact PySem.P.repr_of_bool (by cases b <;> exact hq s.heap _ _ fun _ _ z => z)
    | int i => simp only [RepD] at rd; subst rd; obtain ⟨t, rfl⟩ := ru; exact PySem.P.repr_of_int (by simpa only [smD, decide_eq_true_eq] using c1) (hq s.heap _ _ fun _ _ z => z)
    | str x => simp only [RepD] at rd; obtain ⟨rfl, _⟩ := rd; obtain ⟨t, rfl⟩ := ru; exact PySem.P.repr_of_str (hq s.heap _ _ fun _ _ z => z) hz
    | tup xs =>
      simp only [RepD] at rd
      obtain ⟨a, _, rfl, _⟩ := rd
      cases ru
      exact repr_of_reads' g1 (smD_show _ c1) (fun z => g2 (c4 z)) gd (by have := toPyT_depth (.tup xs); omega) (fun _ _ z => z) hq hz
    | lst xs =>
      simp only [RepD] at rd
      obtain ⟨a, _, rfl, _⟩ := rd
      cases ru
      exact repr_of_reads' g1 (smD_show _ c1) (fun z => g2 (c4 z)) gd (by have := toPyT_depth (.lst xs); omega) (fun _ _ z => z) hq hz
    | dct ks xs =>
      simp only [RepD] at rd
      obtain ⟨a, _, rfl, _⟩ := rd
      cases ru
      exact repr_of_reads' g1 (smD_show _ c1) (fun z => g2 (c4 z)) gd (by have := toPyT_depth (.dct ks xs); omega) (fun _ _ z => z) hq hz
  · cases e
theorem each_rep {K : PySem.W.Frag} {H : Hp} : ∀ {ds : List D} {ws : List V} {its : List Value}, RepDs K H ds ws → Vals ws its → PySem.W.EachIs (fun u d => ∃ x, RelV x u ∧ RepD K H d x) its ds
  | [], _, _, h, r => by simp only [RepDs] at h; subst h; cases r; exact .nil
  | d :: ds, _, _, h, r => by
    obtain ⟨v, w, rfl, p, q⟩ := h.uncons
    cases r with
    | cons r1 r2 => exact .cons ⟨v, r1, p⟩ (each_rep q r2)
theorem rep_each {K : PySem.W.Frag} {H : Hp} : ∀ {its : List Value} {ds : List D}, PySem.W.EachIs (fun u d => ∃ x, RelV x u ∧ RepD K H d x) its ds → ∃ ws, RepDs K H ds ws ∧ Vals ws its
  | _, _, .nil => ⟨[], .nil, .nil⟩
  | _, _, .cons ⟨x, r, p⟩ t => by
    obtain ⟨ws, h1, h2⟩ := rep_each t
    exact ⟨x :: ws, .cons p h1, .cons r h2⟩
theorem srt_ok {xs : List D} (h : srtOk xs = true) : PySem.W.AllAlike (xs.map toPyT) ∧ PySem.W.Sortable (xs.map toPyT) ∧ ∀ b ∈ xs, (toPyT b).depth ≤ 60 := by
  unfold srtOk at h
  simp only [Bool.and_eq_true, Bool.or_eq_true, List.all_eq_true, decide_eq_true_eq] at h
  obtain ⟨⟨h1, h2⟩, h3⟩ := h
  refine ⟨fun d hd d' hd' => ?_, ?_, fun b hb => Nat.le_trans (toPyT_depth b) (h3 b hb)⟩
  · obtain ⟨a, ha, rfl⟩ := List.mem_map.mp hd
    obtain ⟨b, hb, rfl⟩ := List.mem_map.mp hd'
    exact h1 a ha b hb
  · rcases h2 with h2 | h2
    · refine .inl fun d hd => ?_
      obtain ⟨a, ha, rfl⟩ := List.mem_map.mp hd
      have := h2 a ha
      unfold isTupP at this
      split at this
      · exact ⟨_, _, by assumption⟩
      · cases this
    · refine .inr fun d hd => ?_
      obtain ⟨a, ha, rfl⟩ := List.mem_map.mp hd
      have := h2 a ha
      exact ⟨fun z => (by rw [z] at this; cases this), fun xs z => (by rw [z] at this; cases this)⟩
theorem cr_srtF (hu : X.A.units + 70 < cLine) : CallR X (.builtin "sorted") (rnF X.K srtD) := by
  intro pins s σ H vs us Q I r h
  obtain ⟨m, st, xs, z, rel, rs, e, q⟩ := h
  unfold srtD at e
  split at e
  · split at e <;> cases e
    rename_i ds hc
    obtain ⟨c1, c2, c3⟩ := srt_ok hc
    obtain ⟨v, rfl, rv⟩ := p1 rs
    obtain ⟨p, ws, rfl, h1, l, h2⟩ := rep_lst rv
    rw [Vals.ref1 r]
    obtain ⟨its, rvv, hl, _⟩ := I.list h1
    have hr := each_rep h2 rvv
    have er : PySem.W.EachIs (fun u d => ∃ as, Reads s.heap u (toPyT d) as) its ds := hr.mono fun u d ⟨x, y1, y2⟩ => by
      obtain ⟨as, k, _⟩ := reads_of I d x u (RepD.mono hm_same d x y2) y1
      exact ⟨as, k⟩
    refine PySem.W.sorted_data (R := fun u d => ∃ x, RelV x u ∧ RepD X.K (hm m H) d x) (enc := toPyT) (bs := ds) hl.isList hr er c1 c2 l (fun b hb => by have := c3 b hb; omega) fun out hol hout => ?_
    · obtain ⟨ws2, k1, k2⟩ := rep_each hout
      obtain ⟨c, hc2⟩ := PyProof.Rows.sortedAll_at s.heap its out.toArray
      have hn : H (s.heap.objs.size + 1) = none := I.hok.fresh (Nat.le_succ _)
      have hlen : ws2.length ≤ sizeLine := by rw [← k1.length, List.length_mergeSort]; exact l
      refine ⟨.ref _, upd H (s.heap.objs.size + 1) (.lst ws2), I.laid (t' := s.toks) (fun _ _ => PyProof.Rows.sortedAll_old) (Nat.le_succ _) ⟨hlen, out, c, k2, hc2⟩, rfl, ?_⟩
      exact q m H ws2 _ .refl rel k1 (by rw [List.length_mergeSort]; exact l) hn
  · split at e <;> cases e
    rename_i ds hc
    obtain ⟨c1, c2, c3⟩ := srt_ok hc
    obtain ⟨v, rfl, rv⟩ := p1 rs
    obtain ⟨p, ws, rfl, h1, l, h2⟩ := rep_tup rv
    rw [Vals.ref1 r]
    obtain ⟨its, rvv, hl, _⟩ := I.tuple (same_tup hm_same h1)
    have hr := each_rep h2 rvv
    obtain ⟨oo, hoo, hcl, nn, hdt⟩ := hl
    have hil : its.length = ds.length := by rw [h2.length]; exact rvv.length.symm
    refine Calls.call_function_entry kind_sorted plain_sorted entry_sorted (args_sorted1 _) ?_
    unfold Builtin.«sorted»
    refine wpAny_bind (m := checkCount "sorted" 1 1 _) (wpAny_pure (wpAny_bind (wpAny_collect_seq (A := X.A.in1) p (.inr rfl) hoo hcl hdt (fun h' kp => ?_) (by rw [List.size_toArray]; omega))))
    rw [List.toList_toArray]
    have I1 : Inv X pins σ H { s with heap := h' } := I.kept (t' := s.toks) kp
    refine wpAny_bind (wpAny_newList ?_ (by omega))
    have hoL : (h'.push (seqObj "list" its.toArray 0)).get? h'.objs.size = some (seqObj "list" its.toArray 0) := Heap.get?_push_size _ rfl
    refine wpAny_bind (wpAny_holding ?_)
    refine PySem.W.list_sort_data (R := fun u d => ∃ x, RelV x u ∧ RepD X.K (hm m H) d x) (enc := toPyT) (bs := ds) hoL hr ?_ c1 c2 l (fun b hb => by have := c3 b hb; show X.A.units + 1 + 1 + _ < cLine; omega) fun out hol hout => ?_
    · refine hr.mono fun u d ⟨x, y1, y2⟩ => ?_
      obtain ⟨as, k, _⟩ := reads_of I1 d x u (RepD.mono hm_same d x y2) y1
      refine ⟨as, PyProof.Rows.Reads.keeps (fun b o e => Heap.get?_push_of_some _ e) k, fun hm => ?_⟩
      obtain ⟨o', e'⟩ := PyProof.On.reads_mem_get k _ hm
      exact absurd (Heap.lt_size e') (Nat.lt_irrefl _)
    · obtain ⟨ws2, k1, k2⟩ := rep_each hout
      obtain ⟨c, hc2⟩ := sortedHeap_at (vs := its) (out := out.toArray) hoL
      have hn : H h'.objs.size = none := I1.hok.fresh (Nat.le_refl _)
      have hlen : ws2.length ≤ sizeLine := by rw [← k1.length, List.length_mergeSort]; exact l
      refine wpAny_pure ⟨_, rfl, .ref h'.objs.size, upd H h'.objs.size (.lst ws2), I1.laid (t' := s.toks) (fun b u e => ?_) (Nat.le_refl _) ⟨hlen, out, c, k2, hc2⟩, rfl, ?_⟩
      · have hlt := Heap.lt_size e
        show (sortedHeap (h'.push (seqObj "list" its.toArray 0)) h'.objs.size its out.toArray).get? b = some u
        rw [sortedHeap_old (Nat.ne_of_lt hlt) (by rw [Heap.size_push]; exact Nat.lt_succ_of_lt hlt)]
        exact Heap.get?_push_of_some _ e
      · exact q m H ws2 _ .refl rel k1 (by rw [List.length_mergeSort]; exact l) hn
  · cases e
end TW
namespace TW
open PySem PySem.Spec PyProof.Rows L2
variable {X : Cx}

/-! ### list.count, list.remove of flat things -/
theorem cnt_eqU {y : V} : ∀ {xs : List V} {us : List Value}, Vals xs us → xs.all flatV = true → us.countP (eqU y) = xs.countP (fun z => eqV z y)
  | _, _, .nil, _ => rfl
  | z :: xs, u :: us, .cons r t, f => by
    rw [List.all_cons, Bool.and_eq_true] at f
    rw [List.countP_cons, List.countP_cons, cnt_eqU t f.2, eqU_of r f.1]
def rCntF (K : PySem.W.Frag) : V → List V → Hp → VK → Prop := fun x xs H Q => ∃ (a : Addr) (ys : List V) (y : V), x = .ref a ∧ xs = [y] ∧ SqL K H a ys ∧ flatV y = true ∧ ys.all flatV = true ∧ Q (.int (ys.countP (fun z => eqV z y) : Nat)) H
theorem mt_cntF : MtR X "list.count" (rCntF X.K) := by
  intro pins s σ H x xs v us Q I rx rxs h
  obtain ⟨a, ys, y, rfl, rfl, hs, fy, fys, q⟩ := h
  cases rx
  obtain ⟨uy, rfl, ry⟩ := rxs.one
  obtain ⟨its, rv, ⟨⟨cls, dd, data, sl⟩, n, ho, hc, hdn, hd⟩, hlen⟩ := I.list hs
  simp only at hc hd
  subst hc hd
  refine call_meets PySem.F.slot_list_count ⟨_, ho, rfl⟩ PySem.F.entry_list_count (PySem.F.args_list_count_2 _ _) (SeqAt.list_countAt a its.toArray n dd sl uy (eqU y)) ⟨ho, fun u hu => mem_eqAt ry fy rv fys u (by simpa using hu), ?_⟩
  refine ⟨.int (ys.countP (fun z => eqV z y) : Nat), H, I.tok _, ⟨s.toks, ?_⟩, q⟩
  have e : its.toArray.toList.countP (eqU y) = ys.countP (fun z => eqV z y) := cnt_eqU rv fys
  rw [← e]
def rRemF : V → List V → Hp → VK → Prop := fun x xs H Q => ∃ (l : Addr) (ys : List V) (y z : V) (j : Nat), x = .ref l ∧ xs = [y] ∧ H l = some (.lst ys) ∧ flatV y = true ∧ ys.all flatV = true ∧ ys[j]? = some z ∧ eqV z y = true ∧ (∀ (m : Nat) (z' : V), m < j → ys[m]? = some z' → eqV z' y = false) ∧
  Q .non (upd H l (.lst (ys.eraseIdx j)))
theorem mt_remF : MtR X "list.remove" rRemF := by
  intro pins s σ H x xs v us Q I rx rxs h
  obtain ⟨l, ys, y, z, j, rfl, rfl, hH, fy, fys, hj, hz, hno, q⟩ := h
  cases rx
  obtain ⟨uy, rfl, ry⟩ := rxs.one
  obtain ⟨hsz, its, n, rv, hl, e⟩ := I.lstM hH
  obtain ⟨u, hu, ru⟩ := rv.get hj
  obtain ⟨hjl, hje⟩ := List.getElem?_eq_some_iff.mp hu
  refine call_meets PySem.F.slot_list_remove ⟨_, e, rfl⟩ PySem.F.entry_list_remove (PySem.F.args_list_remove_2 _ _)
    (SeqAt.list_removeAt l its.toArray n none #[] uy (eqU y) j (by simpa using hjl) ?_ ?_ (by rw [List.size_toArray]; omega)) ⟨e, fun u' hu' => mem_eqAt ry fy rv fys u' (by simpa using hu'), ?_⟩
  · have e1 : its.toArray[j] = u := by simpa using hje
    rw [e1, eqU_of ru (flat_at fys hj)]
    exact hz
  · intro m hm hmj
    have hml : m < its.length := by simpa using hm
    have hy2 : ys[m]? = some (ys[m]'(by omega)) := List.getElem?_eq_getElem _
    obtain ⟨u2, hu2, ru2⟩ := rv.get hy2
    have e1 : its.toArray[m] = u2 := by
      rw [List.getElem?_eq_getElem hml] at hu2
      simpa using Option.some.inj hu2
    rw [e1, eqU_of ru2 (flat_at fys hy2)]
    exact hno m _ hmj hy2
  · refine ⟨.non, _, I.lset (its' := its.eraseIdx j) (t' := s.toks) hH e ?_ (rv.eraseIdx j) ?_, rfl, q⟩
    · show its.toArray.eraseIdxIfInBounds j = (its.eraseIdx j).toArray
      rw [List.eraseIdxIfInBounds_toArray]
    · exact Nat.le_trans (List.length_eraseIdx_le ys j) hsz
/-! over data -/
theorem cnt_rep {K : PySem.W.Frag} {H : Hp} {x : D} {w : V} (hx : RepD K H x w) (fx : flatD x = true) : ∀ {ds : List D} {vs : List V}, RepDs K H ds vs → ds.all flatD = true → vs.countP (fun z => eqV z w) = ds.countP (fun d => eqD d x)
  | [], _, h, _ => by simp only [RepDs] at h; subst h; rfl
  | d :: ds, _, h, f => by
    obtain ⟨v, r, rfl, p, q⟩ := h.uncons
    simp only [List.all_cons, Bool.and_eq_true] at f
    rw [List.countP_cons, List.countP_cons, cnt_rep hx fx q f.2, eqV_of p f.1 hx fx]
theorem find_rep {K : PySem.W.Frag} {H : Hp} {x : D} {w : V} (hx : RepD K H x w) (fx : flatD x = true) {ds : List D} {vs : List V} (h : RepDs K H ds vs) (f : ds.all flatD = true) {j : Nat} (hj : ds.findIdx? (fun d => eqD d x) = some j) :
    ∃ z, vs[j]? = some z ∧ eqV z w = true ∧ ∀ (m : Nat) (z' : V), m < j → vs[m]? = some z' → eqV z' w = false := by
  rw [List.findIdx?_eq_some_iff_getElem] at hj
  obtain ⟨hl, h1, h2⟩ := hj
  have at_ : ∀ (m : Nat) (hm : m < ds.length), ∃ z, vs[m]? = some z ∧ eqV z w = eqD ds[m] x := fun m hm => by
    obtain ⟨z, e, r⟩ := h.get (List.getElem?_eq_getElem hm)
    exact ⟨z, e, eqV_of r (List.all_eq_true.mp f _ (List.getElem_mem hm)) hx fx⟩
  obtain ⟨z, e, r⟩ := at_ j hl
  refine ⟨z, e, by rw [r]; exact h1, fun m z' hm hz => ?_⟩
  obtain ⟨z2, e2, r2⟩ := at_ m (by omega)
  rw [hz] at e2
  cases e2
  rw [r2]
  simpa using h2 m hm
theorem erase_rep {K : PySem.W.Frag} {H : Hp} : ∀ {ds : List D} {vs : List V} (j : Nat), RepDs K H ds vs → RepDs K H (ds.eraseIdx j) (vs.eraseIdx j)
  | [], _, j, h => by simp only [RepDs] at h; subst h; simp; exact .nil
  | d :: ds, _, 0, h => by
    obtain ⟨v, r, rfl, p, q⟩ := h.uncons
    simpa using q
  | d :: ds, _, j + 1, h => by
    obtain ⟨v, r, rfl, p, q⟩ := h.uncons
    simpa using RepDs.cons p (erase_rep j q)
/-! ### a new list, so many times -/
theorem lf_lrep {g : Gx} {a b : Expr} {pos : Pos} {fa fb : En → Sto → R Vv} (ha : PE X a (LF g fa)) (hb : PE X b (LE g fb)) : PE X (.BinOp a .Mult b pos) (LF g fun en st => (fa en st).bind fun x st => (fb en st).bind fun y st => lrepV x y st) := by
  refine pe_weak (pe_op op_rep ha hb) ?_
  rintro σ H Q ⟨m, en, st, rel, re, out⟩
  refine ⟨m, en, st, rel, re, ?_⟩
  dsimp only at out
  cases hf : fa en st with
  | stuck => rw [hf] at out; exact out
  | exc x st1 => rw [hf] at out; exact out
  | ok x st1 =>
    rw [hf, bind_ok] at out
    have bad : (∀ y st, lrepV x y st = .stuck) → Out g m H σ (RepV g.K) (fun v H1 => LE g fb σ H1 fun y H2 => rRep v y H2 Q) (.ok x st1) := fun hx m' H' v e l r => by
      refine ⟨m', en, st1, l, re.ext e, OutF.bind (OutF.ext e out) fun y st2 m2 H2 w e2 x2 l2 ry o2 => ?_⟩
      rw [hx] at o2
      exact o2.elim
    cases x with
    | ref n => exact bad fun _ _ => rfl
    | exn z => exact bad fun _ _ => rfl
    | d z => cases z with
      | lst ds =>
        intro m' H' vs p e l r hl n
        have ex := l.ext_fresh (o := .lst vs) n
        refine ⟨m', en, st1, l.fresh n, re.ext (e.trans ex), OutF.bind (OutF.ext (e.trans ex) out) fun y st2 m2 H2 w e2 x2 l2 ry o2 => ?_⟩
        unfold lrepV at o2
        split at o2
        · rename_i xs k hx
          cases hx
          split at o2
          · rename_i hc
            simp only [RepV, RepD] at ry
            subst ry
            have hp : hm m' (upd H' p (.lst vs)) p = some (.lst vs) := hm_some.mpr ⟨l.fresh_ne n, upd_same⟩
            have r2 := RepDs.mono (ex.same.trans x2.same) _ _ r
            have ln := r.length
            have hk : k.toNat ≤ 1000 := by omega
            have hmul := Nat.mul_le_mul (show vs.length ≤ 1000 by omega) hk
            refine ⟨p, k, vs, rfl, rfl, (hm_some.mp (x2.same _ _ hp)).2, by omega, by omega, by rw [sizeLine_eq]; omega, fun p2 n2 => o2 m2 H2 _ p2 .refl l2 (r2.rep _) ?_ n2⟩
            rw [PyProof.Rows.lm_len_rep_flat, sizeLine_eq]
            have := Nat.mul_le_mul hk hc.2.2
            omega
          · exact o2.elim
        · exact o2.elim
      | _ => exact bad fun _ _ => rfl
end TW
namespace TW
open PySem PySem.Spec PyProof.Rows L2
variable {X : Cx} {g : Gx} {pos : Pos}
/-! ### rows of a dict -/
theorem kP_inj {a b : Str × Str} (h : kP a = kP b) : a = b := by
  obtain ⟨a1, a2⟩ := a
  obtain ⟨b1, b2⟩ := b
  simp only [kP, List.cons.injEq, Sum.inr.injEq, and_true] at h
  rw [h.1, h.2]
theorem kS_inj {a b : Str} (h : kS a = kS b) : a = b := by
  simpa [kS] using h
section
variable {K : PySem.W.Frag} {H : Hp} {κ κ' : Type} [DecidableEq κ] [DecidableEq κ'] {f : κ → κ'} {ok : κ → Prop}
theorem RepK.get (inj : ∀ {a b}, f a = f b → a = b) {kvs : List (κ × D)} {us : List (κ' × V)} (h : RepK K H f ok kvs us) (k : κ) : match getA kvs k with
    | some d => ∃ v, valV us (f k) = some v ∧ RepD K H d v
    | none => valV us (f k) = none := by
  induction h with
  | nil => rfl
  | @cons p u ps us h t ih =>
    obtain ⟨h1, h2, h3⟩ := h
    by_cases e : p.1 = k
    · have e1 : getA (p :: ps) k = some p.2 := by simp [getA, List.find?_cons, e]
      rw [e1]
      exact ⟨u.2, valV_pos (by rw [h1, e]), h3⟩
    · have e1 : getA (p :: ps) k = getA ps k := by simp [getA, List.find?_cons, e]
      rw [e1, valV_neg (by rw [h1]; exact fun z => e (inj z))]
      exact ih
theorem RepK.any (inj : ∀ {a b}, f a = f b → a = b) {kvs : List (κ × D)} {us : List (κ' × V)} (h : RepK K H f ok kvs us) (k : κ) : (us.any fun u => decide (u.1 = f k)) = kvs.any fun p => decide (p.1 = k) := by
  induction h with
  | nil => rfl
  | @cons p u ps us h t ih =>
    rw [List.any_cons, List.any_cons, ih, h.1]
    congr 1
    by_cases e : p.1 = k
    · simp [e]
    · have : ¬ f p.1 = f k := fun z => e (inj z)
      simp [e, this]
theorem RepK.put (inj : ∀ {a b}, f a = f b → a = b) {kvs : List (κ × D)} {us : List (κ' × V)} (h : RepK K H f ok kvs us) {k : κ} {x : D} {v : V} (hk : ok k) (hx : RepD K H x v) : RepK K H f ok (putA kvs k x) (putK us (f k) v) := by
  unfold putA putK
  rw [h.any inj k]
  split
  · have key : ∀ {kvs : List (κ × D)} {us : List (κ' × V)}, RepK K H f ok kvs us → RepK K H f ok (kvs.map fun p => if p.1 = k then (p.1, x) else p) (us.map fun u => if u.1 = f k then (u.1, v) else u) := by
      intro kvs us h
      induction h with
      | nil => exact .nil
      | @cons p u ps us h t ih =>
        refine .cons ?_ ih
        by_cases e : p.1 = k
        · have e2 : u.1 = f k := by rw [h.1, e]
          dsimp only
          rw [if_pos e, if_pos e2]
          exact ⟨h.1, h.2.1, hx⟩
        · have e2 : ¬ u.1 = f k := by rw [h.1]; exact fun z => e (inj z)
          dsimp only
          rw [if_neg e, if_neg e2]
          exact h
    exact key h
  · have key : ∀ {kvs : List (κ × D)} {us : List (κ' × V)}, RepK K H f ok kvs us → RepK K H f ok (kvs ++ [(k, x)]) (us ++ [(f k, v)]) := by
      intro kvs us h
      induction h with
      | nil => exact .cons ⟨rfl, hk, hx⟩ .nil
      | cons h t ih => exact .cons h ih
    exact key h
theorem RepK.drop (inj : ∀ {a b}, f a = f b → a = b) {kvs : List (κ × D)} {us : List (κ' × V)} (h : RepK K H f ok kvs us) (k : κ) : RepK K H f ok (dropA kvs k) (dropK us (f k)) := by
  unfold dropA dropK
  induction h with
  | nil => exact .nil
  | @cons p u ps us h t ih =>
    by_cases e : p.1 = k
    · have e2 : u.1 = f k := by rw [h.1, e]
      rw [List.filter_cons_of_neg (by simp [e]), List.filter_cons_of_neg (by simp [e2])]
      exact ih
    · have e2 : ¬ u.1 = f k := by rw [h.1]; exact fun z => e (inj z)
      rw [List.filter_cons_of_pos (by simp [e]), List.filter_cons_of_pos (by simp [e2])]
      exact .cons h ih
theorem RepK.len {kvs : List (κ × D)} {us : List (κ' × V)} (h : RepK K H f ok kvs us) : kvs.length = us.length := Paired.length h
end
theorem ofz_rd {H : Hp} {a : Addr} {lk : Bool} {u o : HO} (h : H a = some o) (z : ofz lk u o) : Rd H a u := by
  unfold ofz at z
  split at z
  · obtain ⟨ob, rfl⟩ := z
    exact .inr ⟨ob, h⟩
  · subst z
    exact .inl h
/-- a pair of texts, laid -/
theorem pair_at {K : PySem.W.Frag} {m : Mp} {H : Hp} {y : D} {k : Str × Str} {v : V} (e : kyT y = some k) (h : RepD K (hm m H) y v) : y = pD k ∧ okP k ∧ ∃ b, v = .ref b ∧ H b = some (.tup ((kP k).map kV)) := by
  unfold kyT at e
  split at e
  · cases e
    rename_i a b
    simp only [RepD] at h
    obtain ⟨p, vs, rfl, q, l, z, w⟩ := h
    obtain ⟨v1, r1, rfl, z1, z2⟩ := z
    obtain ⟨v2, r2, rfl, z3, z4⟩ := z2
    have hw := w rfl
    simp only [RepDs] at z4
    subst z4
    obtain ⟨rfl, c1, c2⟩ := z1
    obtain ⟨rfl, c3, c4⟩ := z3
    exact ⟨rfl, ⟨⟨c1, c2⟩, ⟨c3, c4⟩⟩, p, rfl, hm_same _ _ hw⟩
  · cases e
theorem txt_at {K : PySem.W.Frag} {m : Mp} {H : Hp} {y : D} {k : Str} {v : V} (e : kyS y = some k) (h : RepD K (hm m H) y v) : y = .str k ∧ okS k ∧ v = kV (kS k) := by
  unfold kyS at e
  split at e
  · cases e
    simp only [RepD] at h
    exact ⟨rfl, h.2, h.1⟩
  · cases e
def LookR (K : PySem.W.Frag) (H : Hp) : Option D → Option V → Prop
  | some d, o => ∃ v, o = some v ∧ RepD K H d v
  | none, o => o = none
theorem dlookO_at {K : PySem.W.Frag} {m : Mp} {H : Hp} {ob : MO} {u : HO} {a : Addr} {y : D} {w : V} {r : Option D} (hu : H a = some u) (hr : RepO K (hm m H) ob u) (ry : RepD K (hm m H) y w) (e : dlookO ob y = some r) :
    IsD H a ∧ ∃ o, DGet H a w o ∧ LookR K (hm m H) r o := by
  unfold dlookO at e
  split at e
  · split at e <;> cases e
    rename_i lk kvs _ k hk
    obtain ⟨us, z, rk⟩ := hr
    obtain ⟨rfl, _, b, rfl, hb⟩ := pair_at hk ry
    have rd := ofz_rd hu z
    have g := rk.get kP_inj k
    refine ⟨.inr ⟨us, rd⟩, valV us (kP k), .inr ⟨us, kP k, b, rd, rfl, hb, rfl⟩, ?_⟩
    split at g
    · rename_i d hd
      rw [hd]
      exact g
    · rename_i hd
      rw [hd]
      exact g
  · split at e <;> cases e
    rename_i lk kvs _ k hk
    obtain ⟨us, z, rk⟩ := hr
    obtain ⟨rfl, _, rfl⟩ := txt_at hk ry
    have rd := ofz_rd hu z
    have g := rk.get kS_inj k
    refine ⟨.inl ⟨us, rd⟩, valV us (kS k), .inl ⟨us, kS k, rd, rfl, rfl⟩, ?_⟩
    split at g
    · rename_i d hd
      rw [hd]
      exact g
    · rename_i hd
      rw [hd]
      exact g
  · cases e
theorem dlook_at {K : PySem.W.Frag} {m : Mp} {H : Hp} {st : Sto} {o y : Vv} {v w : V} {r : Option D} (rel : Rel K m st H) (ro : RepV K m H o v) (ry : RepV K m H y w) (e : dlook o y st = some r) :
    ∃ a, v = .ref a ∧ IsD H a ∧ ∃ o, DGet H a w o ∧ LookR K (hm m H) r o := by
  unfold dlook at e
  split at e
  · split at e
    · rename_i n y _ ob hn
      obtain ⟨a, ha, rfl⟩ := ro
      obtain ⟨u, hu, hr⟩ := rel.get _ _ _ hn ha
      exact ⟨a, rfl, dlookO_at hu hr ry e⟩
    · cases e
  · cases e
theorem dct_ty {K : PySem.W.Frag} {m : Mp} {H : Hp} {st : Sto} {o : Vv} {v : V} (rel : Rel K m st H) (e : isDct st o = true) (ro : RepV K m H o v) : tyV K "dict" v H := by
  unfold isDct at e
  split at e
  · split at e
    · rename_i n _ ob hn
      rw [Bool.and_eq_true] at e
      obtain ⟨a, ha, rfl⟩ := ro
      obtain ⟨u, hu, hr⟩ := rel.get _ _ _ hn ha
      cases ob with
      | lst _ => exact nomatch e.1
      | dT lk kvs =>
        obtain ⟨us, z, rk⟩ := hr
        have : lk = false := by simpa [MO.free] using e.2
        subst this
        have : u = .dT us := z
        subst this
        exact .inr (.inr (.inl ⟨rfl, .inr ⟨us, hu⟩⟩))
      | dK lk kvs =>
        obtain ⟨us, z, rk⟩ := hr
        have : lk = false := by simpa [MO.free] using e.2
        subst this
        have : u = .dK us := z
        subst this
        exact .inr (.inr (.inl ⟨rfl, .inl ⟨us, hu⟩⟩))
    · cases e
  · cases e
/-! ### methods -/
def rM (K : PySem.W.Frag) (f : Vv → List Vv → Sto → R Vv) : V → List V → Hp → VK → Prop := fun v vs H Q => ∃ m st x xs y st', Rel K m st H ∧ RepV K m H x v ∧ RepVs K m H xs vs ∧ f x xs st = .ok y st' ∧ ∀ m' H' w, Ext m H m' H' → Rel K m' st' H' → RepV K m' H' y w → Q w H'
theorem LookR.getD {K : PySem.W.Frag} {H : Hp} {r : Option D} {o : Option V} (h : LookR K H r o) : (∃ d v, r = some d ∧ o = some v ∧ RepD K H d v) ∨ (r = none ∧ o = none) := by
  cases r with
  | some d => obtain ⟨v, h1, h2⟩ := h; exact .inl ⟨d, v, rfl, h1, h2⟩
  | none => exact .inr ⟨rfl, h⟩
theorem mt_getD (hu : X.A.units + 1 < cLine) : MtR X "dict.get" (rM X.K getM) := by
  intro pins s σ H x xs v us Q I rx rs h
  obtain ⟨m, st, a, as, y, st', rel, ra, ras, e, q⟩ := h
  unfold getM at e
  split at e
  · rename_i y1
    obtain ⟨w, rfl, rw'⟩ := p1 ras
    obtain ⟨u, rfl, ru⟩ := rs.one
    split at e <;> cases e
    · rename_i d hd
      obtain ⟨p, rfl, _, o, g, lk⟩ := dlook_at rel ra rw' hd
      cases rx
      obtain ⟨v0, rfl, rv⟩ := lk
      exact d_get1 hu I g ru fun w' s' I' rw2 => ⟨v0, H, I', rw2, q m H v0 .refl rel rv⟩
    · rename_i hd
      obtain ⟨p, rfl, _, o, g, lk⟩ := dlook_at rel ra rw' hd
      cases rx
      have : o = none := lk
      subst this
      exact d_get1 hu I g ru fun w' s' I' rw2 => ⟨.non, H, I', rw2, q m H .non .refl rel (by simp only [RepV, RepD])⟩
  · rename_i y1 x1
    obtain ⟨w, w2, rfl, rw', rw2⟩ := p2 ras
    obtain ⟨u, u2, rfl, ru, ru2⟩ := vals2 rs
    split at e <;> cases e
    · rename_i d hd
      obtain ⟨p, rfl, _, o, g, lk⟩ := dlook_at rel ra rw' hd
      cases rx
      obtain ⟨v0, rfl, rv⟩ := lk
      exact d_get2 hu I g ru ru2 fun w' s' I' rw2 => ⟨v0, H, I', rw2, q m H v0 .refl rel rv⟩
    · rename_i hd
      obtain ⟨p, rfl, _, o, g, lk⟩ := dlook_at rel ra rw' hd
      cases rx
      have : o = none := lk
      subst this
      exact d_get2 hu I g ru ru2 fun w' s' I' rw3 => ⟨w2, H, I', rw3, q m H w2 .refl rel rw2⟩
  · cases e
/-- d.pop(k), k a tuple -/
theorem d_popT {A : Around} {E : Value → Shared → Prop} {pins : List (Addr × Obj)} {σ : L2.St} {H : Hp} {s : Shared} {a b : Addr} {kvs : List (List Key × V)} {k : List Key} {v : V} {Q : Value → Shared → Prop} (hu : A.units + 1 < cLine) (I : Inv X pins σ H s) (ha : H a = some (.dT kvs)) (hb : H b = some (.tup (k.map kV))) (hv : valV kvs k = some v)
    (h : ∀ w' s', Inv X pins σ (upd H a (.dT (dropK kvs k))) s' → RelV v w' → Q w' s') : wpAny (model X.prog X.w) A (call (.builtin "dict.pop") [.ref a, .ref b]) Q E s := by
  obtain ⟨z, hd, xs, rel, dd⟩ := dt_of I.hok ha
  have hz : xs.length ≤ sizeLine := by rw [← Paired.length rel]; exact z
  have r := rel.val k
  rw [hv] at r
  obtain ⟨w', hw, rw'⟩ := RelO.some_of (v := v) (o := (atKey xs k).map (·.2)) r
  obtain ⟨p, hp, hp2⟩ := Option.map_eq_some_iff.mp hw
  refine call_pop_heap (knd := tupleKind (mixKind X.prog X.w)) (hsz := hz) (more := []) (.inl rfl) (PySem.F.args_dict_pop_2 _ _) (tupleKind_room_in1 hu) (key_of I.hok hb) hd dd hp fun h' dd' hs => ?_
  obtain ⟨o, es, ep, hq, h2, h3, h4, _, h5⟩ := dd'
  refine h _ _ (d_write I (by rw [ha]; exact True.intro) hs ⟨o, hq⟩ ⟨Nat.le_trans (dropK_le kvs k) z, hd, _, (DX.KT_drop k rel).keeps (fun c ys ec => (by rw [upd_ne (ne_of ec ha (fun z => nomatch z))]; exact ec)), o, es, ep, hq, h2, h3, h4, h5⟩) ?_
  rw [hp2]
  exact rw'
theorem mt_popD (hu : X.A.units + 1 < cLine) : MtR X "dict.pop" (rM X.K popM) := by
  intro pins s σ H x xs v us Q I rx rs h
  obtain ⟨m, st, a, as, y, st', rel, ra, ras, e, q⟩ := h
  unfold popM at e
  split at e
  · split at e
    · split at e <;> cases e
      rename_i n y1 _ ob hn _ d ob' hp
      obtain ⟨w, rfl, rw'⟩ := p1 ras
      obtain ⟨p, hpa, rfl⟩ := ra
      obtain ⟨u, hu', hr⟩ := rel.get _ _ _ hn hpa
      cases rx
      obtain ⟨iv, rfl, ru⟩ := rs.one
      unfold dpopO at hp
      split at hp
      · split at hp
        · split at hp <;> cases hp
          rename_i kvs _ k hk _ hg
          obtain ⟨us, z, rk⟩ := hr
          have : u = .dT us := z
          subst this
          obtain ⟨rfl, _, b, rfl, hb⟩ := pair_at hk rw'
          have g := rk.get kP_inj k
          rw [hg] at g
          obtain ⟨v0, g1, g2⟩ := g
          cases ru
          obtain ⟨r2, x2⟩ := rel.put (ob := .dT false (dropA kvs k)) (o := .dT (dropK us (kP k))) hpa hn rfl ⟨_, rfl, rk.drop kP_inj k⟩
          exact d_popT hu I hu' hb g1 fun w' s' I' rw2 => ⟨v0, _, I', rw2, q m _ v0 x2 r2 (RepD.mono x2.same _ _ g2)⟩
        · cases hp
      · split at hp
        · split at hp <;> cases hp
          rename_i kvs _ k hk _ hg
          obtain ⟨us, z, rk⟩ := hr
          have : u = .dK us := z
          subst this
          obtain ⟨rfl, _, rfl⟩ := txt_at hk rw'
          have g := rk.get kS_inj k
          rw [hg] at g
          obtain ⟨v0, g1, g2⟩ := g
          obtain ⟨r2, x2⟩ := rel.put (ob := .dK false (dropA kvs k)) (o := .dK (dropK us (kS k))) hpa hn rfl ⟨_, rfl, rk.drop kS_inj k⟩
          exact d_pop I hu' ru g1 (.inl rfl) fun w' s' I' rw2 => ⟨v0, _, I', rw2, q m _ v0 x2 r2 (RepD.mono x2.same _ _ g2)⟩
        · cases hp
      · cases hp
    · cases e
  · cases e
end TW
namespace TW
open PySem PySem.Spec PyProof.Rows L2
variable {X : Cx} {g : Gx} {a b c e : Expr} {es : List Expr} {pos : Pos} {fa fb fc : En → Sto → R Vv} {fr : En → Sto → R (List Vv)}

def noStar : Expr → Bool
  | .Starred _ _ => false
  | _ => true
theorem star_cons (h : noStar e = true) (env : Env) : starEach (e :: es) env = (false, eval e env) :: starEach es env := by
  cases e <;> first | rfl | cases h
theorem star_any : ∀ {es : List Expr} (h : es.all noStar = true) (env : Env) (p : Pos), (backTo p (starEach es env)).any (·.1) = false
  | [], _, _, _ => rfl
  | e :: es, h, env, p => by
    simp only [List.all_cons, Bool.and_eq_true] at h
    rw [star_cons h.1]
    have := star_any h.2 env p
    unfold backTo at *
    simpa using this
theorem star_all {es : List Expr} (h : es.all noStar = true) (env : Env) (p : Pos) : (backTo p (starEach es env)).all (fun x => !x.1) = true := by
  have := star_any h env p
  rw [List.any_eq_false] at this
  rw [List.all_eq_true]
  intro x hx
  simpa using this x hx
theorem bfName_boot (f : Bf) : bootBuiltins (bfName f) = some (match f with | .tupleOf => .type "tuple" | .listOf => .type "list" | .intOf => .type "int" | .strOf => .type "str" | .len => .builtin "len" | .abs => .builtin "abs" | .max2 => .builtin "max" | .min2 => .builtin "min" | .divmod => .builtin "divmod" | .all => .builtin "all" | .any => .builtin "any" | .reprOf => .builtin "repr" | .sortedOf => .builtin "sorted") := by
  cases f <;> decide +kernel
theorem bfName_plain (f : Bf) : bfName f ≠ "__name__" ∧ (bfName f == ("__debug__" : Str)) = false := by
  cases f <;> decide +kernel
theorem le_opn {r : List V → Hp → VK → Prop} {F : List D → Option D} {x : Str} {p : Pos} (h : PE X (.Call (.Name x p) es [] pos) (tCB r (LA g fr))) (hr : r = rn g.K F) : PE X (.Call (.Name x p) es [] pos) (LE g fun en st => (fr en st).bind fun vs st => opn F vs st) := by
  subst hr
  refine pe_weak h ?_
  rintro σ H Q ⟨m, en, st, rel, re, out⟩
  refine ⟨m, en, st, rel, re, Out.bind out fun x st1 m1 H1 v e1 x1 l1 rx o1 => ?_⟩
  exact out_opn l1 rx o1
theorem lf_opn {r : List V → Hp → VK → Prop} {F : List D → Option D} {x : Str} {p : Pos} (h : PE X (.Call (.Name x p) es [] pos) (tCB r (LA g fr))) (hr : r = rnF g.K F) : PE X (.Call (.Name x p) es [] pos) (LF g fun en st => (fr en st).bind fun vs st => opn F vs st) := by
  subst hr
  refine pe_weak h ?_
  rintro σ H Q ⟨m, en, st, rel, re, out⟩
  refine ⟨m, en, st, rel, re, OutF.bind out fun x st1 m1 H1 v e1 x1 l1 rx o1 => ?_⟩
  unfold opn at o1
  split at o1
  · rename_i h1
    unfold give at o1
    split at o1
    · rename_i z hz
      refine ⟨m1, st1, _, z, l1, ders_rep l1 h1 rx, hz, ?_⟩
      cases z with
      | lst ds => exact o1
      | _ => exact o1
    · exact o1.elim
  · exact o1.elim
/-- those that walk -/
def bfCalm : Bf → Bool
  | .max2 => true | .min2 => true | .all => true | .any => true | .tupleOf => true | _ => false
theorem le_blt (hK : g.K = X.K) (gd : X.A.guards = some []) (hu : X.A.units + 70 < cLine) (f : Bf) (hc : bfCalm f = true → X.calm = true) {p : Pos} (hg : Gl X (bfName f)) (hm : X.mg (bfName f) = none) (ha : PA X (e :: es) (LA g fr)) (hs : (e :: es).all noStar = true) :
    PE X (.Call (.Name (bfName f) p) (e :: es) [] pos) (LE g fun en st => (fr en st).bind fun vs st => opn (bfD f) vs st) := by
  have hb := bfName_boot f
  obtain ⟨n1, n2⟩ := bfName_plain f
  simp only [List.all_cons, Bool.and_eq_true] at hs
  have s1 := star_cons (es := es) hs.1 X.env
  have s2 := star_any hs.2 X.env pos
  cases f
  · exact le_opn (pe_callB cr_len hg hm hb ha n1 n2 s1 s2) (by rw [hK]; rfl)
  · exact le_opn (pe_callB cr_absD hg hm hb ha n1 n2 s1 s2) (by rw [hK]; rfl)
  · exact le_opn (pe_callB (cr_maxD (hc rfl)) hg hm hb ha n1 n2 s1 s2) (by rw [hK]; rfl)
  · exact le_opn (pe_callB (cr_minD (hc rfl)) hg hm hb ha n1 n2 s1 s2) (by rw [hK]; rfl)
  · exact le_opn (pe_callB cr_dmD hg hm hb ha n1 n2 s1 s2) (by rw [hK]; rfl)
  · exact le_opn (pe_callB (cr_allD (hc rfl)) hg hm hb ha n1 n2 s1 s2) (by rw [hK]; rfl)
  · exact le_opn (pe_callB (cr_anyD (hc rfl)) hg hm hb ha n1 n2 s1 s2) (by rw [hK]; rfl)
  · exact le_opn (pe_callTy (cr_tupD (hc rfl)) hg hm hb ha n1 n2 s1 s2) (by rw [hK]; rfl)
  · exact le_of_lf (lf_opn (pe_callTy cr_lstF hg hm hb ha n1 n2 s1 s2) (by rw [hK]; rfl))
  · exact le_opn (pe_callTy cr_intD hg hm hb ha n1 n2 s1 s2) (by rw [hK]; rfl)
  · exact le_opn (pe_callB (cr_reprD gd hu) hg hm hb ha n1 n2 s1 s2) (by rw [hK]; rfl)
  · exact le_of_lf (lf_opn (pe_callB (cr_srtF hu) hg hm hb ha n1 n2 s1 s2) (by rw [hK]; rfl))
  · exact le_opn (pe_callTy cr_strD hg hm hb ha n1 n2 s1 s2) (by rw [hK]; rfl)
theorem lf_list (hK : g.K = X.K) {p : Pos} (hg : Gl X "list") (hm : X.mg "list" = none) (ha : PA X (e :: es) (LA g fr)) (hs : (e :: es).all noStar = true) :
    PE X (.Call (.Name "list" p) (e :: es) [] pos) (LF g fun en st => (fr en st).bind fun vs st => opn (bfD .listOf) vs st) := by
  simp only [List.all_cons, Bool.and_eq_true] at hs
  exact lf_opn (pe_callTy cr_lstF hg hm (bfName_boot .listOf) ha (bfName_plain .listOf).1 (bfName_plain .listOf).2 (star_cons hs.1 X.env) (star_any hs.2 X.env pos)) (by rw [hK]; rfl)
theorem lf_sorted (hK : g.K = X.K) (hu : X.A.units + 70 < cLine) {p : Pos} (hg : Gl X "sorted") (hm : X.mg "sorted" = none) (ha : PA X (e :: es) (LA g fr)) (hs : (e :: es).all noStar = true) :
    PE X (.Call (.Name "sorted" p) (e :: es) [] pos) (LF g fun en st => (fr en st).bind fun vs st => opn (bfD .sortedOf) vs st) := by
  simp only [List.all_cons, Bool.and_eq_true] at hs
  exact lf_opn (pe_callB (cr_srtF hu) hg hm (bfName_boot .sortedOf) ha (bfName_plain .sortedOf).1 (bfName_plain .sortedOf).2 (star_cons hs.1 X.env) (star_any hs.2 X.env pos)) (by rw [hK]; rfl)
/-! ### methods of texts -/
theorem strs_rep {K : PySem.W.Frag} {H : Hp} : ∀ {xs : List D} {vs : List V} {bs : List Str}, strsD xs = some bs → RepDs K H xs vs → vs = bs.map V.str ∧ ∀ b ∈ bs, PyData.strOk b = true
  | [], _, _, e, h => by simp only [strsD, Option.some.injEq] at e; subst e; simp only [RepDs] at h; exact ⟨h, fun b z => nomatch z⟩
  | .str b :: xs, _, _, e, h => by
    obtain ⟨v, r, rfl, p, q⟩ := h.uncons
    simp only [strsD] at e
    split at e <;> cases e
    simp only [RepD] at p
    obtain ⟨h1, h2⟩ := strs_rep (by assumption) q
    refine ⟨by rw [p.1, h1]; rfl, fun c hc => ?_⟩
    rcases List.mem_cons.mp hc with rfl | hc
    · exact p.2.2
    · exact h2 c hc
  | .non :: xs, _, _, e, h => by simp only [strsD] at e; cases e
  | .int _ :: xs, _, _, e, h => by simp only [strsD] at e; cases e
  | .bl _ :: xs, _, _, e, h => by simp only [strsD] at e; cases e
  | .tup _ :: xs, _, _, e, h => by simp only [strsD] at e; cases e
  | .lst _ :: xs, _, _, e, h => by simp only [strsD] at e; cases e
  | .dct _ _ :: xs, _, _, e, h => by simp only [strsD] at e; cases e
theorem strOk_iff {s : Str} : PyData.strOk s = true ↔ ∀ c ∈ s.cps.toList, c < 0x110000 := by
  unfold PyData.strOk
  rw [Array.all_eq_true_iff_forall_mem]
  simp
theorem join_mem (a : Str) : ∀ (ys : List Str) (c : Nat), c ∈ (Txt.join a ys).cps.toList → c ∈ a.cps.toList ∨ ∃ y ∈ ys, c ∈ y.cps.toList := by
  intro ys c hc
  have e : (Txt.join a ys).cps.toList = TL.joinL a.cps.toList (ys.map fun y => y.cps.toList) := (by rw [TL.join_eq]; exact TL.tl_join a ys)
  rw [e] at hc
  clear e
  induction ys with
  | nil => simp [TL.joinL] at hc
  | cons y ys ih =>
    cases ys with
    | nil => simp only [List.map_cons, List.map_nil, TL.joinL] at hc; exact .inr ⟨y, List.mem_cons_self, hc⟩
    | cons z zs =>
      simp only [List.map_cons, TL.joinL, List.mem_append] at hc
      rcases hc with hc | hc | hc
      · exact .inr ⟨y, List.mem_cons_self, hc⟩
      · exact .inl hc
      · rcases ih hc with h | ⟨y', h1, h2⟩
        · exact .inl h
        · exact .inr ⟨y', List.mem_cons_of_mem _ h1, h2⟩
theorem joinL_len (S : List Nat) : ∀ ps : List (List Nat), (TL.joinL S ps).length ≤ (ps.map (·.length)).sum + ps.length * S.length
  | [] => by simp [TL.joinL]
  | [p] => by simp [TL.joinL]
  | p :: q :: r => by
    have := joinL_len S (q :: r)
    simp only [TL.joinL, List.length_append, List.map_cons, List.sum_cons, List.length_cons] at this ⊢
    have e : (r.length + 1 + 1) * S.length = (r.length + 1) * S.length + S.length := Nat.succ_mul _ _
    omega
theorem join_len (a : Str) (ys : List Str) : (Txt.join a ys).length ≤ (ys.map (·.length)).sum + ys.length * a.length := by
  have e : (Txt.join a ys).cps.toList = TL.joinL a.cps.toList (ys.map fun y => y.cps.toList) := by rw [TL.join_eq]; exact TL.tl_join a ys
  have h := joinL_len a.cps.toList (ys.map fun y => y.cps.toList)
  rw [← e] at h
  simp only [List.map_map, List.length_map, Array.length_toList] at h
  exact h
theorem join_ok {a : Str} {ys : List Str} (h1 : PyData.strOk a = true) (h2 : ∀ y ∈ ys, PyData.strOk y = true) : PyData.strOk (Txt.join a ys) = true := by
  rw [strOk_iff]
  intro c hc
  rcases join_mem a ys c hc with h | ⟨y, hy, h⟩
  · exact strOk_iff.mp h1 c h
  · exact strOk_iff.mp (h2 y hy) c h
def plainBase : Expr → Bool
  | .Call (.Name _ _) [] [] _ => false
  | _ => true
theorem base_ok {o : Expr} (h : plainBase o = true) (name : Str) (env : Env) : attributeBase o name env (eval o env) = eval o env := by
  unfold attributeBase
  split
  · cases h
  · rfl
def mth (m : Mf) (fo : En → Sto → R Vv) (fr : En → Sto → R (List Vv)) : En → Sto → R Vv := fun en st => (fo en st).bind fun x st => if recv m x st then (fr en st).bind fun vs st => doM m x vs st else .stuck
/-- data in, data out -/
def rmD (K : PySem.W.Frag) (f : D → List D → Option D) : V → List V → Hp → VK → Prop := fun v vs H Q => ∃ m st x xs z, Rel K m st H ∧ RepR K m H x v ∧ Paired (RepR K m H) xs vs ∧ f x xs = some z ∧ Giv K m H st z Q
theorem rM_opm {K : PySem.W.Frag} {f : D → List D → Option D} {v : V} {vs : List V} {H : Hp} {Q : VK} (h : rM K (opm f) v vs H Q) : rmD K f v vs H Q := by
  obtain ⟨m, st, x, xs, y, st', rel, rx, rs, e, q⟩ := h
  unfold opm at e
  split at e
  · rename_i h1 h2
    unfold give at e
    split at e <;> cases e
    rename_i z hz
    exact ⟨m, st, _, _, z, rel, der_rep rel h1 rx, ders_rep rel h2 rs, hz, fun m' H' w x' l' r' => q m' H' w x' l' r'⟩
  · cases e
theorem mt_joinD : MtR X "str.join" (rmD X.K joinD) := by
  intro pins s σ H x xs v us Q I rx rs h
  obtain ⟨m, st, a, as, z, rel, ra, ras, e, q⟩ := h
  unfold joinD at e
  split at e
  · split at e
    · split at e <;> cases e
      rename_i hl
      obtain ⟨w, rfl, rw'⟩ := p1 ras
      obtain ⟨rfl, l1, o1⟩ := rep_str ra
      obtain ⟨p, ws, rfl, h1, l, h2⟩ := rep_lst rw'
      obtain ⟨k1, k2⟩ := strs_rep (by assumption) h2
      rw [k1] at h1
      exact mt_join pins s σ H _ _ v us Q I rx rs ⟨_, p, _, rfl, rfl, .inl h1, hl, q.str rel (by rw [sizeLine_eq]; exact Nat.le_trans (join_len _ _) hl) (join_ok o1 k2)⟩
    · cases e
  · cases e
theorem mt_upperD : MtR X "str.upper" (rmD X.K upperD) := by
  intro pins s σ H x xs v us Q I rx rs h
  obtain ⟨m, st, a, as, z, rel, ra, ras, e, q⟩ := h
  unfold upperD at e
  split at e
  · split at e <;> cases e
    rename_i hl
    obtain ⟨rfl, l1, o1⟩ := rep_str ra
    cases ras
    exact mt_upper pins s σ H _ _ v us Q I rx rs ⟨_, rfl, rfl, by omega, q.str rel hl.2.1 hl.2.2⟩
  · cases e
theorem mt_appD : MtR X "list.append" (rM X.K appV) := by
  intro pins s σ H x xs v us Q I rx rs h
  obtain ⟨m, st, a, as, y, st', rel, ra, ras, e, q⟩ := h
  unfold appV at e
  split at e
  · split at e
    · split at e <;> cases e
      rename_i n d _ ds hn hl
      obtain ⟨w, rfl, rw'⟩ := p1 ras
      obtain ⟨p, hp, rfl⟩ := ra
      obtain ⟨u, hu, vs, rfl, r1, l1⟩ := rel.get _ _ _ hn hp
      obtain ⟨r2, x2⟩ := rel.put (ob := .lst (ds ++ [d])) (o := .lst (vs ++ [w])) hp hn rfl ⟨_, rfl, r1.append (.cons rw' .nil), by simp only [List.length_append, List.length_singleton]; omega⟩
      exact mt_append pins s σ H _ _ v us Q I rx rs ⟨p, vs, w, rfl, rfl, hu, by rw [← r1.length]; exact hl, q m _ _ x2 r2 (by simp only [RepV, RepD])⟩
    · cases e
  · cases e
theorem mt_countD : MtR X "list.count" (rmD X.K countD) := by
  intro pins s σ H x xs v us Q I rx rs h
  obtain ⟨m, st, a, as, z, rel, ra, ras, e, q⟩ := h
  unfold countD at e
  split at e
  · split at e <;> cases e
    rename_i hf
    rw [Bool.and_eq_true] at hf
    obtain ⟨w, rfl, rw'⟩ := p1 ras
    obtain ⟨p, ws, rfl, h1, l, h2⟩ := rep_lst ra
    have hw := rw'.d
    have h2' := h2.mono hm_same
    refine mt_cntF pins s σ H _ _ v us Q I rx rs ⟨p, ws, w, rfl, rfl, h1, flat_of hw hf.1, flats_of h2' hf.2, ?_⟩
    rw [cnt_rep hw hf.1 h2' hf.2]
    exact q.int rel
  · cases e
theorem mt_indexD : MtR X "list.index" (rmD X.K indexD) := by
  intro pins s σ H x xs v us Q I rx rs h
  obtain ⟨m, st, a, as, z, rel, ra, ras, e, q⟩ := h
  unfold indexD at e
  split at e
  · split at e
    · rename_i hf
      split at e <;> cases e
      rename_i j hj
      rw [Bool.and_eq_true] at hf
      obtain ⟨w, rfl, rw'⟩ := p1 ras
      obtain ⟨p, ws, rfl, h1, l, h2⟩ := rep_lst ra
      have hw := rw'.d
      have h2' := h2.mono hm_same
      obtain ⟨y, k1, k2, k3⟩ := find_rep hw hf.1 h2' hf.2 hj
      exact mt_index pins s σ H _ _ v us Q I rx rs ⟨p, ws, w, j, y, rfl, rfl, h1, flat_of hw hf.1, flats_of h2' hf.2, k1, k2, k3, q.int rel⟩
    · cases e
  · cases e
theorem strs_lay {K : PySem.W.Frag} {H : Hp} : ∀ {ys : List Str}, (ys.all fun z => decide (z.length ≤ sizeLine) && PyData.strOk z) = true → RepDs K H (ys.map D.str) (ys.map V.str)
  | [], _ => .nil
  | y :: ys, h => by
    rw [List.all_cons, Bool.and_eq_true, Bool.and_eq_true, decide_eq_true_eq] at h
    exact .cons (by simp only [RepD]; exact ⟨trivial, h.1⟩) (strs_lay h.2)
theorem mt_splitD : MtR X "str.split" (rmD X.K splitD) := by
  intro pins s σ H x xs v us Q I rx rs h
  obtain ⟨m, st, a, as, z, rel, ra, ras, e, q⟩ := h
  unfold splitD at e
  split at e
  · split at e <;> cases e
    rename_i hc
    obtain ⟨w, rfl, rw'⟩ := p1 ras
    obtain ⟨rfl, l1, o1⟩ := rep_str ra
    obtain ⟨rfl, l2, o2⟩ := rep_str rw'
    exact mt_split pins s σ H _ _ v us Q I rx rs ⟨_, _, rfl, rfl, hc.1, hc.2.1, fun p hp => q.lst rel (strs_lay hc.2.2.2) (by rw [List.length_map]; exact hc.2.2.1) hp⟩
  · cases e
theorem mt_remD : MtR X "list.remove" (rM X.K remV) := by
  intro pins s σ H x xs v us Q I rx rs h
  obtain ⟨m, st, a, as, y, st', rel, ra, ras, e, q⟩ := h
  unfold remV at e
  split at e
  · split at e
    · split at e
      · rename_i n d _ ds hn hf
        split at e <;> cases e
        rename_i j hj
        rw [Bool.and_eq_true] at hf
        obtain ⟨w, rfl, rw'⟩ := p1 ras
        obtain ⟨p, hp, rfl⟩ := ra
        obtain ⟨u, hu, vs, rfl, r1, l1⟩ := rel.get _ _ _ hn hp
        obtain ⟨z, k1, k2, k3⟩ := find_rep rw' hf.1 r1 hf.2 hj
        obtain ⟨r2, x2⟩ := rel.put (ob := .lst (ds.eraseIdx j)) (o := .lst (vs.eraseIdx j)) hp hn rfl ⟨_, rfl, erase_rep j r1, Nat.le_trans (List.length_eraseIdx_le ds j) l1⟩
        exact mt_remF pins s σ H _ _ v us Q I rx rs ⟨p, vs, w, z, j, rfl, rfl, hu, flat_of rw' hf.1, flats_of r1 hf.2, k1, k2, k3, q m _ _ x2 r2 (by simp only [RepV, RepD])⟩
      · cases e
    · cases e
  · cases e
def mfName : Mf → Str
  | .join => "join" | .upper => "upper" | .append => "append" | .get => "get" | .pop => "pop" | .count => "count" | .index => "index" | .split => "split" | .remove => "remove"
def mfTy : Mf → String
  | .join => "str" | .upper => "str" | .append => "list" | .get => "dict" | .pop => "dict" | .count => "list" | .index => "list" | .split => "str" | .remove => "list"
def mfId : Mf → String
  | .join => "str.join" | .upper => "str.upper" | .append => "list.append" | .get => "dict.get" | .pop => "dict.pop" | .count => "list.count" | .index => "list.index" | .split => "str.split" | .remove => "list.remove"
theorem mf_rule (hu : X.A.units + 1 < cLine) (m : Mf) : MtR X (mfId m) (rM X.K (doM m)) := by
  cases m
  · exact fun pins s σ H x xs v us Q I rx rs h => mt_joinD pins s σ H x xs v us Q I rx rs (rM_opm h)
  · exact fun pins s σ H x xs v us Q I rx rs h => mt_upperD pins s σ H x xs v us Q I rx rs (rM_opm h)
  · exact mt_appD
  · exact mt_getD hu
  · exact mt_popD hu
  · exact fun pins s σ H x xs v us Q I rx rs h => mt_countD pins s σ H x xs v us Q I rx rs (rM_opm h)
  · exact fun pins s σ H x xs v us Q I rx rs h => mt_indexD pins s σ H x xs v us Q I rx rs (rM_opm h)
  · exact fun pins s σ H x xs v us Q I rx rs h => mt_splitD pins s σ H x xs v us Q I rx rs (rM_opm h)
  · exact mt_remD
theorem mf_slot (m : Mf) : Slot (mfTy m) (mfName m) (mfId m) := by
  cases m
  · exact PySem.F.slot_str_join
  · exact PySem.F.slot_str_upper
  · exact PySem.F.slot_list_append
  · exact PySem.F.slot_dict_get
  · exact PySem.F.slot_dict_pop
  · exact PySem.F.slot_list_count
  · exact PySem.F.slot_list_index
  · exact PySem.F.slot_str_split
  · exact PySem.F.slot_list_remove
theorem mf_type (m : Mf) : typeOf (.builtin (mfId m)) = pure (.type "method_descriptor") := by
  cases m
  · exact PySem.F.type_str_join
  · exact PySem.F.type_str_upper
  · exact PySem.F.type_list_append
  · exact PySem.F.type_dict_get
  · exact PySem.F.type_dict_pop
  · exact PySem.F.type_list_count
  · exact PySem.F.type_list_index
  · exact PySem.F.type_str_split
  · exact PySem.F.type_list_remove
theorem mf_attrs (m : Mf) : PlainAttrs (mfTy m) := by
  cases m
  · exact PySem.F.plainAttrs_str
  · exact PySem.F.plainAttrs_str
  · exact PySem.F.plainAttrs_list
  · exact PySem.F.plainAttrs_dict
  · exact PySem.F.plainAttrs_dict
  · exact PySem.F.plainAttrs_list
  · exact PySem.F.plainAttrs_list
  · exact PySem.F.plainAttrs_str
  · exact PySem.F.plainAttrs_list
theorem txt_ty {K : PySem.W.Frag} {m : Mp} {H : Hp} {x : Vv} {v : V} (h : isTxt x = true) (r : RepV K m H x v) : tyV K "str" v H := by
  unfold isTxt at h
  split at h
  · simp only [RepV, RepD] at r
    rw [r.1]
    rfl
  · cases h
theorem lst_ty {K : PySem.W.Frag} {m : Mp} {H : Hp} {st : Sto} {x : Vv} {v : V} (rel : Rel K m st H) (h : isLst st x = true) (r : RepV K m H x v) : tyV K "list" v H := by
  unfold isLst at h
  split at h
  · split at h
    · rename_i n xs hn
      obtain ⟨p, hp, rfl⟩ := r
      obtain ⟨u, hu, vs, rfl, _⟩ := rel.get _ _ _ hn hp
      exact .inl ⟨rfl, vs, .inl (.inl hu)⟩
    · cases h
  · simp only [RepV, RepD] at r
    obtain ⟨a, vs, rfl, q, _⟩ := r
    exact .inl ⟨rfl, vs, hm_same.seq q⟩
  · cases h
theorem recv_ty {K : PySem.W.Frag} {m : Mp} {H : Hp} {st : Sto} {x : Vv} {v : V} (f : Mf) (rel : Rel K m st H) (h : recv f x st = true) (r : RepV K m H x v) : tyV K (mfTy f) v H := by
  cases f
  · exact txt_ty h r
  · exact txt_ty h r
  · exact lst_ty rel h r
  · exact dct_ty rel h r
  · exact dct_ty rel h r
  · exact lst_ty rel h r
  · exact lst_ty rel h r
  · exact txt_ty h r
  · exact lst_ty rel h r
theorem doM_calm (m : Mf) (x : Vv) (vs : List Vv) (st : Sto) : (∃ y st', doM m x vs st = .ok y st') ∨ doM m x vs st = .stuck := by
  cases m <;> simp only [doM]
  · unfold opm give; split <;> (try split) <;> simp
  · unfold opm give; split <;> (try split) <;> simp
  · unfold appV; split <;> (try split) <;> (try split) <;> simp
  · unfold getM; split <;> (try split) <;> simp
  · unfold popM; split <;> (try split) <;> (try split) <;> simp
  · unfold opm give; split <;> (try split) <;> simp
  · unfold opm give; split <;> (try split) <;> simp
  · unfold opm give; split <;> (try split) <;> simp
  · unfold remV; split <;> (try split) <;> (try split) <;> (try split) <;> simp
theorem le_meth (hK : g.K = X.K) (hu : X.A.units + 1 < cLine) (f : Mf) {ap : Pos} {o : Expr} {fo : En → Sto → R Vv} (ho : PE X o (LE g fo)) (ha : PA X (e :: es) (LA g fr)) (hs : (e :: es).all noStar = true) (hn : es.length < 20) (hb : plainBase o = true) (hl : (ap.endLine == pos.line) = true) :
    PE X (.Call (.Attribute o (mfName f) ap) (e :: es) [] pos) (LE g (mth f fo fr)) := by
  have hs' := hs
  simp only [List.all_cons, Bool.and_eq_true] at hs'
  refine pe_weak (pe_bm (mf_attrs f) (mf_slot f) (mf_type f) (mf_rule hu f) ho ha (base_ok hb _ _) ?_ hl (star_cons hs'.1 X.env) (star_any hs'.2 X.env pos)) ?_
  · rw [star_all hs]
    simp [keywordEach, backToKw]
    omega
  · rintro σ H Q ⟨m, en, st, rel, re, out⟩
    refine ⟨m, en, st, rel, re, Out.bind out fun x st1 m1 H1 v e1 x1 l1 rx o1 => ?_⟩
    split at o1
    · rename_i hr
      refine ⟨by rw [← hK]; exact recv_ty f l1 hr rx, m1, en, st1, l1, re.ext x1, Out.bind o1 fun xs st2 m2 H2 vs e2 x2 l2 rxs o2 => ?_⟩
      rw [← hK]
      rcases doM_calm f x xs st2 with ⟨y, st3, h3⟩ | h3
      · rw [h3] at o2
        exact ⟨m2, st2, x, xs, y, st3, l2, rx.ext x2, rxs, h3, fun m' H' w x' l' r' => o2 m' H' w x' l' r'⟩
      · rw [h3] at o2; exact o2.elim
    · exact o1.elim
theorem le_meth0 (hK : g.K = X.K) (hu : X.A.units + 1 < cLine) (f : Mf) {ap : Pos} {o : Expr} {fo : En → Sto → R Vv} (ho : PE X o (LE g fo)) (hb : plainBase o = true) (hl : (ap.endLine == pos.line) = true) :
    PE X (.Call (.Attribute o (mfName f) ap) [] [] pos) (LE g (mth f fo fun _ st => .ok [] st)) := by
  refine pe_weak (pe_bm0 (mf_attrs f) (mf_slot f) (mf_type f) (mf_rule hu f) ho (base_ok hb _ _) hl) ?_
  rintro σ H Q ⟨m, en, st, rel, re, out⟩
  refine ⟨m, en, st, rel, re, Out.bind out fun x st1 m1 H1 v e1 x1 l1 rx o1 => ?_⟩
  split at o1
  · rename_i hr
    rw [bind_ok] at o1
    rw [← hK]
    refine ⟨recv_ty f l1 hr rx, ?_⟩
    rcases doM_calm f x [] st1 with ⟨y, st3, h3⟩ | h3
    · rw [h3] at o1
      exact ⟨m1, st1, x, [], y, st3, l1, rx, .nil, h3, fun m' H' w x' l' r' => o1 m' H' w x' l' r'⟩
    · rw [h3] at o1; exact o1.elim
  · exact o1.elim
end TW
namespace TW
open PySem PySem.Spec PyProof.Rows L2
variable {X : Cx} {g : Gx} {a b c e tg : Expr} {es : List Expr} {pos : Pos} {fa fb fc : En → Sto → R Vv} {fr : En → Sto → R (List Vv)}

/-! ### subscripts -/
theorem RepDs.atI {K : PySem.W.Frag} {H : Hp} {ds : List D} {vs : List V} {i : Int} {d : D} (h : RepDs K H ds vs) (e : L2.atI ds i = some d) : ∃ v, L2.atI vs i = some v ∧ RepD K H d v := by
  unfold L2.atI at e ⊢
  rw [← h.length]
  cases hj : ixN ds.length i with
  | none => rw [hj] at e; cases e
  | some j =>
    rw [hj] at e
    exact RepDs.get h e
theorem strOk_one {s : Str} {c : Nat} {i : Int} (h : PyData.strOk s = true) (e : L2.atI s.cps.toList i = some c) : PyData.strOk ⟨#[c]⟩ = true := by
  rw [strOk_iff] at h ⊢
  intro d hd
  simp at hd
  subst hd
  unfold L2.atI at e
  cases hj : ixN s.cps.toList.length i with
  | none => rw [hj] at e; cases e
  | some j =>
    rw [hj] at e
    exact h _ (List.mem_of_getElem? e)
theorem ix_dk (hu : X.A.units + 64 < cLine) {value slice : Expr} {pins : List (Addr × Obj)} {σ : L2.St} {H : Hp} {s : Shared} {Q : VK} {p : Addr} {kvs : List (Key × V)} {k : Key} {w : V} {u : Value} (I : Inv X pins σ H s) (hp : H p = some (.dK kvs)) (hk : valV kvs k = some w) (ru : RelV (kV k) u) (q : Q w H)
    (hs : subscripted slice false (.ref p) u = operate [.ref p, u] (getItem (.ref p) u)) : wpAny (model X.prog X.w) X.A (subscriptTail value slice (.ref p) u) (EP X pins σ Q) X.xe s := by
  have G : DGet H p (kV k) (some w) := hk ▸ DGet.k hp
  have ty := dict_typeIs I G
  have go : wpAny (model X.prog X.w) X.A (getItem (.ref p) u) (EP X pins σ Q) X.xe s := d_getItem (by omega) I G ru fun w' s' I' r' => ⟨w, H, I', r', q⟩
  unfold subscriptTail
  refine wpAny_bind ?_
  rw [getitemInPython_of_ne ty.not_modules]
  refine wpAny_bind (wpAny_specialOf ty PySem.F.slot_dict_getitem.lookup ?_)
  have fin : wpAny (model X.prog X.w) X.A (subscripted slice false (.ref p) u) (fun r s3 => wpAny (model X.prog X.w) X.A (letTemporaryGo value (.ref p) r >>= fun _ => pure r) (EP X pins σ Q) X.xe s3) X.xe s := by
    rw [hs]
    exact wpAny_operating (wpAny_mono go (fun r s3 h3 => wpAny_bind (wpAny_letTemporaryGo (wpAny_pure h3))) fun _ _ x => x)
  first
    | exact wpAny_bind fin
    | exact wpAny_pure (wpAny_bind fin)
    | (refine wpAny_pure ?_; simp only [Bool.false_eq_true, if_false]; exact wpAny_bind fin)
theorem ix_D (hu : X.A.units + 64 < cLine) : IxR X (r2 X.K idxD) := by
  intro value slice pins s σ H x y v u Q I rx ry h hs
  obtain ⟨m, st, a, b, z, rel, ra, rb, e, q⟩ := h
  unfold idxD at e
  split at e
  · obtain ⟨p, ws, rfl, h1, l, h2⟩ := rep_lst ra
    rw [rep_int rb] at ry
    obtain ⟨w, h3, h4⟩ := h2.atI e
    exact ix_list value slice pins s σ H _ _ v u Q I rx ry ⟨p, ws, _, w, rfl, rfl, h1, h3, q.now rel h4⟩ hs
  · obtain ⟨p, ws, rfl, h1, l, h2⟩ := rep_tup ra
    rw [rep_int rb] at ry
    obtain ⟨w, h3, h4⟩ := h2.atI e
    exact ix_tup value slice pins s σ H _ _ v u Q I rx ry ⟨p, ws, _, w, rfl, rfl, same_tup hm_same h1, h3, q.now rel h4⟩ hs
  · obtain ⟨rfl, l, o⟩ := rep_str ra
    rw [rep_int rb] at ry
    split at e <;> cases e
    rename_i c hc
    exact ix_str value slice pins s σ H _ _ v u Q I rx ry ⟨_, _, c, rfl, rfl, l, hc, q.str rel (by show 1 ≤ _; rw [sizeLine_eq]; decide) (strOk_one o hc)⟩ hs
  · split at e
    · rename_i k' hk
      simp only [RepR, RepD] at ra
      obtain ⟨p, vs, rfl, q1, q2, q3⟩ := ra
      have := keyOf_rep rb hk
      subst this
      cases rx
      obtain ⟨w, h1, h2⟩ := zip_get q3 e
      exact ix_dk hu I (hm_same _ _ q1) h1 ry (q.now rel h2) hs
    · cases e
  · cases e
def plainIx : Expr → Bool
  | .Slice _ _ _ _ => false
  | _ => true
theorem ix_ok (h : plainIx b = true) : ∀ o i, subscripted b false o i = operate [o, i] (getItem o i) := by
  intro o i
  cases b <;> first | rfl | cases h
theorem le_idx (hK : g.K = X.K) (hu : X.A.units + 64 < cLine) (ha : PE X a (LE g fa)) (hb : PE X b (LE g fb)) (hp : plainIx b = true) : PE X (.Subscript a b pos) (LE g fun en st => (fa en st).bind fun x st => (fb en st).bind fun y st => op2 idxD x y st) :=
  pe_weak (pe_ix (ix_D hu) ha hb (ix_ok hp)) (by rw [← hK]; exact two_op)
/-! ### slices -/
def LO (g : Gx) (f : En → Sto → R (Option Int)) : TO := fun σ H Q => ∃ m en st, Rel g.K m st H ∧ RepE g.K m H en σ ∧ Out g m H σ (fun _ _ (a b : Option Int) => a = b) Q (f en st)
theorem po_weak {e : Option Expr} {t t' : TO} (h : PO X e t) (k : ∀ σ H Q, t' σ H Q → t σ H Q) : PO X e t' := ⟨fun pins s σ H Q I q => h.run pins s σ H Q I (k σ H Q q)⟩
theorem lo_none : PO X none (LO g fun _ st => .ok none st) := by
  refine po_weak po_none ?_
  rintro σ H Q ⟨m, en, st, rel, re, out⟩
  exact out m H none .refl rel rfl
theorem lo_some (ha : PE X a (LE g fa)) : PO X (some a) (LO g fun en st => (fa en st).bind fun x st => match x with | .d (.int i) => .ok (some i) st | _ => .stuck) := by
  refine po_weak (po_some ha) ?_
  rintro σ H Q ⟨m, en, st, rel, re, out⟩
  refine ⟨m, en, st, rel, re, Out.bind out fun x st1 m1 H1 v e1 x1 l1 rx o1 => ?_⟩
  split at o1
  · rename_i i
    simp only [RepV, RepD] at rx
    exact ⟨i, rx, o1 m1 H1 _ .refl l1 rfl⟩
  · exact o1.elim
theorem cut_rep {K : PySem.W.Frag} {H : Hp} {ds : List D} {vs : List V} (h : RepDs K H ds vs) (lo hi : Option Int) : RepDs K H (cutD ds lo hi) (cutV vs lo hi) := by
  unfold cutD cutV
  rw [h.length]
  exact (h.drop _).take _
theorem cut_len (ds : List D) (lo hi : Option Int) : (cutD ds lo hi).length ≤ ds.length := by
  unfold cutD
  rw [List.length_take, List.length_drop]
  omega
theorem cutS_ok {z : Str} (h : PyData.strOk z = true) (lo hi : Option Int) : PyData.strOk (cutS z lo hi) = true := by
  rw [strOk_iff] at h ⊢
  intro c hc
  exact h c (List.mem_of_mem_drop (List.mem_of_mem_take hc))
def rSl (K : PySem.W.Frag) : V → Option Int → Option Int → Hp → VK → Prop := fun x lo hi H Q => ∃ m st d z, Rel K m st H ∧ RepR K m H d x ∧ slcD d lo hi = some z ∧ GivF K m H st z Q
theorem cut_whole {ds : List D} {lo hi : Option Int} (h1 : HT.sIx ds.length 0 lo = 0) (h2 : HT.sIx ds.length ds.length hi = ds.length) : cutD ds lo hi = ds := by
  unfold cutD
  rw [h1, h2]
  simp
theorem sl_D : SlR X (rSl X.K) := by
  intro pins s σ H x v vl vu lo hi sl Q I rx hs pl pu h
  obtain ⟨m, st, d, z, rel, rd, e, q⟩ := h
  unfold slcD at e
  split at e <;> cases e
  · obtain ⟨rfl, l, o⟩ := rep_str rd
    exact sl_str pins s σ H _ v vl vu _ _ sl Q I rx hs pl pu ⟨_, rfl, l, Giv.str q rel (Nat.le_trans (cutS_length _ _ _) l) (cutS_ok o _ _)⟩
  · obtain ⟨p, ws, rfl, h1, l, h2⟩ := rep_lst rd
    exact sl_list pins s σ H _ v vl vu _ _ sl Q I rx hs pl pu ⟨p, ws, rfl, h1, fun p n => q m H _ p .refl rel (cut_rep h2 _ _) (Nat.le_trans (cut_len _ _ _) l) n⟩
  · have rdd := rep_tupd rd
    obtain ⟨p, ws, rfl, h1, l, h2⟩ := rep_tup rd
    refine sl_tupA pins s σ H _ v vl vu _ _ sl Q I rx hs pl pu ⟨p, ws, rfl, same_tup hm_same h1, fun hw => ?_, fun _ p n => Giv.tup q rel (cut_rep h2 _ _) (Nat.le_trans (cut_len _ _ _) l) n⟩
    rw [← h2.length] at hw
    rw [cut_whole hw.1 hw.2] at q
    exact Giv.now q rel rdd
theorem lf_slc (hK : g.K = X.K) {lo hi : Option Expr} {fl fh : En → Sto → R (Option Int)} {p2 : Pos} (ha : PE X a (LE g fa)) (hl : PO X lo (LO g fl)) (hh : PO X hi (LO g fh)) :
    PE X (.Subscript a (.Slice lo hi none p2) pos) (LF g fun en st => (fa en st).bind fun x st => (fl en st).bind fun l st => (fh en st).bind fun h st => op1 (fun d => slcD d l h) x st) := by
  refine pe_weak (pe_slice sl_D ha hl hh) ?_
  rintro σ H Q ⟨m, en, st, rel, re, out⟩
  refine ⟨m, en, st, rel, re, OutF.bind out fun x st1 m1 H1 v e1 x1 l1 rx o1 => ?_⟩
  refine ⟨m1, en, st1, l1, re.ext x1, OutF.bind o1 fun l st2 m2 H2 l' e2 x2 l2 rl o2 => ?_⟩
  subst rl
  refine ⟨m2, en, st2, l2, (re.ext x1).ext x2, OutF.bind o2 fun h st3 m3 H3 h' e3 x3 l3 rh o3 => ?_⟩
  subst rh
  unfold op1 give at o3
  rw [← hK]
  split at o3
  · rename_i d hd
    split at o3
    · rename_i z hz
      refine ⟨m3, st3, d, z, l3, der_rep l3 hd ((rx.ext x2).ext x3), hz, ?_⟩
      cases z with
      | lst ds => exact o3
      | _ => exact o3
    · exact o3.elim
  · exact o3.elim
/-! ### what is walked -/
/-- what is locked stays -/
def Fz (H0 H : Hp) : Prop := ∀ a ob u, H0 a = some (.frz ob u) → H a = some (.frz ob u)
structure Wk (K : PySem.W.Frag) (m0 : Mp) (H0 : Hp) (w : Wl) (J : L2.It) : Prop where
  stop : ∀ m H st, ((∃ t, m.ad = m0.ad ++ t) ∧ Fz H0 H) → Same (hm m0 H0) (hm m H) → Rel K m st H → pinOk w.pins st = true → J.stop w.xs.length H
  go : ∀ m H st, ((∃ t, m.ad = m0.ad ++ t) ∧ Fz H0 H) → Same (hm m0 H0) (hm m H) → Rel K m st H → pinOk w.pins st = true → ∀ i d, w.xs[i]? = some d → J.go i H
  yld : ∀ m H st, ((∃ t, m.ad = m0.ad ++ t) ∧ Fz H0 H) → Same (hm m0 H0) (hm m H) → Rel K m st H → pinOk w.pins st = true → ∀ i d x H', w.xs[i]? = some d → J.yld i H x H' → Ext m H m H' ∧ Rel K m st H' ∧ RepD K (hm m H') d x
def LI (g : Gx) (f : En → Sto → R Wl) : TI := fun σ H Q => ∃ m en st, Rel g.K m st H ∧ RepE g.K m H en σ ∧ Out g m H σ (Wk g.K) Q (f en st)
theorem wk_list {K : PySem.W.Frag} {m0 : Mp} {H0 : Hp} {p : Addr} {ds : List D} {vs : List V} (h : SqL K (hm m0 H0) p vs) (r : RepDs K (hm m0 H0) ds vs) : Wk K m0 H0 ⟨ds, []⟩ (Itl K p) where
  stop m H st _ x _ _ := ⟨vs, hm_same.seq (x.seq h), by rw [← r.length]; exact Nat.le_refl _⟩
  go m H st _ x _ _ i d hd := by
    obtain ⟨v, e, _⟩ := r.get hd
    exact ⟨vs, v, hm_same.seq (x.seq h), e⟩
  yld m H st _ x rel _ i d y H' hd hy := by
    obtain ⟨rfl, hy⟩ := hy
    obtain ⟨v, e, rv⟩ := r.get hd
    have := hy vs (hm_same.seq (x.seq h))
    rw [e] at this
    cases this
    exact ⟨.refl, rel, RepD.mono x _ _ rv⟩
/-- a pinned list as it lies -/
theorem pin_rep {K : PySem.W.Frag} {m0 m : Mp} {H : Hp} {st : Sto} {n : Nat} {ds : List D} {p : Addr} (hp : m0.ad[n]? = some p) (t : ∃ t, m.ad = m0.ad ++ t) (rel : Rel K m st H) (k : pinOk [(n, ds)] st = true) :
    ∃ vs, H p = some (.lst vs) ∧ RepDs K (hm m H) ds vs := by
  obtain ⟨t, ht⟩ := t
  simp only [pinOk, List.all_cons, List.all_nil, Bool.and_true] at k
  split at k
  · rename_i ys hy
    have := sameDs_eq _ _ k
    subst this
    obtain ⟨u, h1, h2⟩ := rel.get n _ p hy (by rw [ht, List.getElem?_append_left (List.getElem?_eq_some_iff.mp hp).1]; exact hp)
    obtain ⟨vs, rfl, h3, _⟩ := h2
    exact ⟨vs, h1, h3⟩
  · cases k
theorem sql_of {K : PySem.W.Frag} {H : Hp} {p : Addr} {vs : List V} (h : H p = some (.lst vs)) : SqL K H p vs := .inl (.inl h)
theorem wk_pin {K : PySem.W.Frag} {m0 : Mp} {H0 : Hp} {p : Addr} {ds : List D} {n : Nat} (hp : m0.ad[n]? = some p) : Wk K m0 H0 ⟨ds, [(n, ds)]⟩ (Itl K p) where
  stop m H st t x rel k := by
    obtain ⟨vs, h1, h2⟩ := pin_rep hp t.1 rel k
    exact ⟨vs, sql_of h1, by rw [← h2.length]; exact Nat.le_refl _⟩
  go m H st t x rel k i d hd := by
    obtain ⟨vs, h1, h2⟩ := pin_rep hp t.1 rel k
    obtain ⟨v, e, _⟩ := h2.get hd
    exact ⟨vs, v, sql_of h1, e⟩
  yld m H st t x rel k i d y H' hd hy := by
    obtain ⟨rfl, hy⟩ := hy
    obtain ⟨vs, h1, h2⟩ := pin_rep hp t.1 rel k
    obtain ⟨v, e, rv⟩ := h2.get hd
    have := hy vs (sql_of h1)
    rw [e] at this
    cases this
    exact ⟨.refl, rel, rv⟩
theorem wk_tup {K : PySem.W.Frag} {m0 : Mp} {H0 : Hp} {p : Addr} {ds : List D} {vs : List V} (h : SqT K (hm m0 H0) p vs) (r : RepDs K (hm m0 H0) ds vs) : Wk K m0 H0 ⟨ds, []⟩ (Itt K p) where
  stop m H st _ x _ _ := ⟨vs, same_tup hm_same (same_tup x h), by rw [← r.length]; exact Nat.le_refl _⟩
  go m H st _ x _ _ i d hd := by
    obtain ⟨v, e, _⟩ := r.get hd
    exact ⟨vs, v, same_tup hm_same (same_tup x h), e⟩
  yld m H st _ x rel _ i d y H' hd hy := by
    obtain ⟨rfl, hy⟩ := hy
    obtain ⟨v, e, rv⟩ := r.get hd
    have := hy vs (same_tup hm_same (same_tup x h))
    rw [e] at this
    cases this
    exact ⟨.refl, rel, RepD.mono x _ _ rv⟩
theorem wk_str {K : PySem.W.Frag} {m0 : Mp} {H0 : Hp} {s : Str} (o : PyData.strOk s = true) : Wk K m0 H0 ⟨s.cps.toList.map fun c => D.str ⟨#[c]⟩, []⟩ (Its s) where
  stop m H st _ x _ _ := by
    rw [List.length_map]
    first | exact Nat.le_refl _ | (rw [List.length_range]; exact Nat.le_refl _)
  go m H st _ x _ _ i d hd := by
    have := (List.getElem?_eq_some_iff.mp hd).1
    simp at this
    exact this
  yld m H st _ x rel _ i d y H' hd hy := by
    obtain ⟨rfl, c, hc, rfl⟩ := hy
    rw [List.getElem?_map, Array.getElem?_toList, hc] at hd
    cases hd
    refine ⟨.refl, rel, ?_⟩
    simp only [RepD]
    refine ⟨trivial, by show 1 ≤ _; rw [sizeLine_eq]; decide, ?_⟩
    rw [strOk_iff] at o ⊢
    intro d hd
    simp at hd
    subst hd
    exact o _ (by rw [← Array.getElem?_toList] at hc; exact List.mem_of_getElem? hc)
theorem wk_range {K : PySem.W.Frag} {m0 : Mp} {H0 : Hp} {n : Nat} : Wk K m0 H0 ⟨(List.range n).map fun (i : Nat) => D.int i, []⟩ (Itr 0 n) where
  stop m H st _ x _ _ := by
    rw [List.length_map]
    first | exact Nat.le_refl _ | (rw [List.length_range]; exact Nat.le_refl _)
  go m H st _ x _ _ i d hd := by
    have := (List.getElem?_eq_some_iff.mp hd).1
    simp at this
    exact this
  yld m H st _ x rel _ i d y H' hd hy := by
    obtain ⟨rfl, rfl⟩ := hy
    obtain ⟨hl, e⟩ := List.getElem?_eq_some_iff.mp hd
    simp at e
    subst e
    refine ⟨.refl, rel, ?_⟩
    simp only [RepD, Int.zero_add]
theorem li_val (hK : g.K = X.K) (ha : PE X a (LE g fa)) : PI X tg a (LI g fun en st => (fa en st).bind kIv) := by
  refine ⟨fun pins s σ H R I h => ?_⟩
  obtain ⟨m, en, st, rel, re, out⟩ := h
  dsimp only at out
  cases hf : fa en st with
  | stuck => rw [hf] at out; exact out.elim
  | exc x st1 =>
    refine (pi_list ha).run pins s σ H R I ⟨m, en, st, rel, re, ?_⟩
    rw [hf] at out ⊢
    exact out
  | ok x st1 =>
    rw [hf, bind_ok] at out
    unfold kIv at out
    split at out
    · rename_i d
      split at out
      · rename_i xs hx
        unfold itemsD at hx
        split at hx <;> cases hx
        · refine (pi_list ha).run pins s σ H R I ⟨m, en, st, rel, re, ?_⟩
          rw [hf]
          intro m' H' v x' l' r'
          simp only [RepV, RepD] at r'
          obtain ⟨p, vs, rfl, q1, _, q2⟩ := r'
          rw [← hK]
          exact ⟨p, rfl, ⟨vs, hm_same.seq q1⟩, out m' H' _ x' l' (wk_list q1 q2)⟩
        · refine (pi_tup ha).run pins s σ H R I ⟨m, en, st, rel, re, ?_⟩
          rw [hf]
          intro m' H' v x' l' r'
          simp only [RepV, RepD] at r'
          obtain ⟨p, vs, rfl, q1, _, q2, _⟩ := r'
          rw [← hK]
          exact ⟨p, rfl, ⟨vs, same_tup hm_same q1⟩, out m' H' _ x' l' (wk_tup q1 q2)⟩
        · refine (pi_str ha).run pins s σ H R I ⟨m, en, st, rel, re, ?_⟩
          rw [hf]
          intro m' H' v x' l' r'
          simp only [RepV, RepD] at r'
          obtain ⟨rfl, _, o⟩ := r'
          exact ⟨_, rfl, out m' H' _ x' l' (wk_str o)⟩
      · exact out.elim
    · rename_i n
      split at out
      · rename_i xs hx
        refine (pi_list ha).run pins s σ H R I ⟨m, en, st, rel, re, ?_⟩
        rw [hf]
        intro m' H' v x' l' r'
        obtain ⟨p, q1, rfl⟩ := r'
        obtain ⟨u, h1, h2⟩ := l'.get n _ p hx q1
        obtain ⟨vs, rfl, h3, _⟩ := h2
        rw [← hK]
        exact ⟨p, rfl, ⟨vs, sql_of h1⟩, out m' H' _ x' l' (wk_pin q1)⟩
      · exact out.elim
    · exact out.elim
theorem li_range1 {p : Pos} (hg : Gl X "range") (hm : X.mg "range" = none) (ha : PA X [a] (LA g fun en st => (fa en st).bind fun x st => .ok [x] st)) (hs : noStar a = true) :
    PI X tg (.Call (.Name "range" p) [a] [] pos) (LI g fun en st => (fa en st).bind kIr) := by
  refine ⟨fun pins s σ H R I h => (pi_range1 hg hm ha (star_cons hs X.env)).run pins s σ H R I ?_⟩
  obtain ⟨m, en, st, rel, re, out⟩ := h
  refine ⟨m, en, st, rel, re, ?_⟩
  dsimp only at out ⊢
  cases hf : fa en st with
  | stuck => rw [hf] at out; exact out.elim
  | exc x st1 => rw [hf] at out; exact out
  | ok x st1 =>
    rw [hf, bind_ok] at out
    rw [bind_ok]
    unfold kIr at out
    split at out
    · rename_i n
      split at out
      · rename_i hn
        intro m' H' v x' l' r'
        obtain ⟨w, rfl, rw'⟩ := p1 r'
        simp only [RepV, RepD] at rw'
        exact ⟨n, by rw [rw'], hn.1, hn.2, out m' H' _ x' l' wk_range⟩
      · exact out.elim
    · exact out.elim
/-! ### targets -/
/-- nothing but some slots is otherwise -/
structure Agree (own : Nat → Prop) (σ σ' : L2.St) : Prop where
  len : σ'.length = σ.length
  eq : ∀ j, ¬ own j → σ'[j]? = σ[j]?
theorem Agree.refl {own : Nat → Prop} {σ : L2.St} : Agree own σ σ := ⟨rfl, fun _ _ => rfl⟩
theorem Agree.trans {own : Nat → Prop} {σ σ1 σ2 : L2.St} (a : Agree own σ σ1) (b : Agree own σ1 σ2) : Agree own σ σ2 := ⟨b.len.trans a.len, fun j h => (b.eq j h).trans (a.eq j h)⟩
def OutG (g : Gx) (own : Nat → Prop) (σ : L2.St) (m : Mp) (H : Hp) (Q : L2.St → Hp → Prop) : R En → Prop
  | .ok en st => ∀ m' H' σ', Ext m H m' H' → Rel g.K m' st H' → RepE g.K m' H' en σ' → Agree own σ σ' → Q σ' H'
  | _ => False
variable {own : Nat → Prop}
theorem OutG.ext {m m1 : Mp} {H H1 : Hp} {σ : L2.St} {Q : L2.St → Hp → Prop} {r : R En} (e : Ext m H m1 H1) (h : OutG g own σ m H Q r) : OutG g own σ m1 H1 Q r := by
  cases r with
  | ok x st => exact fun m' H' v q => h m' H' v (e.trans q)
  | exc x st => exact h
  | stuck => exact h
theorem OutG.slots {m : Mp} {H : Hp} {σ σ1 : L2.St} {Q : L2.St → Hp → Prop} {r : R En} (e : Agree own σ σ1) (h : OutG g own σ m H Q r) : OutG g own σ1 m H Q r := by
  cases r with
  | ok x st => exact fun m' H' v q l r a => h m' H' v q l r (e.trans a)
  | exc x st => exact h
  | stuck => exact h
theorem OutG.bind {m : Mp} {H : Hp} {σ : L2.St} {α β : Type} {rep : Mp → Hp → α → β → Prop} {Q : L2.St → Hp → Prop} {r : R α} {f : α → Sto → R En} {P : β → Hp → Prop} (h : OutG g own σ m H Q (r.bind f))
    (k : ∀ x st m' H' v, r = .ok x st → Ext m H m' H' → Rel g.K m' st H' → rep m' H' x v → OutG g own σ m' H' Q (f x st) → P v H') : Out g m H σ rep P r := by
  cases r with
  | ok x st => exact fun m' H' v e l q => k x st m' H' v rfl e l q (OutG.ext e h)
  | exc x st => exact h.elim
  | stuck => exact h
def LG (g : Gx) (own : Nat → Prop) (f : Vv → En → Sto → R En) : TG := fun v σ H Q => ∃ m en st x, Rel g.K m st H ∧ RepE g.K m H en σ ∧ RepV g.K m H x v ∧ OutG g own σ m H Q (f x en st)
def LGs (g : Gx) (own : Nat → Prop) (f : List D → En → Sto → R En) : TGs := fun vs σ H Q => ∃ m en st xs, Rel g.K m st H ∧ RepE g.K m H en σ ∧ RepDs g.K (hm m H) xs vs ∧ OutG g own σ m H Q (f xs en st)
theorem pg_weak {t t' : TG} (h : PG X tg t) (k : ∀ v σ H Q, t' v σ H Q → t v σ H Q) : PG X tg t' := ⟨fun pins s σ H v u Q I r q => h.run pins s σ H v u Q I r (k v σ H Q q)⟩
theorem pgs_weak {t t' : TGs} (h : PGs X es t) (k : ∀ v σ H Q, t' v σ H Q → t v σ H Q) : PGs X es t' := ⟨fun pins s σ H v u Q I r q => h.run pins s σ H v u Q I r (k v σ H Q q)⟩
theorem lg_name {i : Nat} {x : Str} (hN : X.N.Nodup) (hi : X.N[i]? = some x) (hx : Loc X.env.scope x) (hf : X.fn x = true ∨ X.env.scope.names.lookup x = some .local) (ho : own i) : PG X (.Name x pos) (LG g own fun v en st => .ok (en.set i (some v)) st) := by
  refine pg_weak (pg_name hN hi hx hf) ?_
  rintro v σ H Q ⟨m, en, st, x, rel, re, rx, out⟩
  refine out m H _ .refl rel (re.set rx i) ⟨by simp, fun j hj => ?_⟩
  have ne : i ≠ j := fun e => hj (by rw [← e]; exact ho)
  exact List.getElem?_set_ne ne
theorem lgs_nil : PGs X [] (LGs g own fun xs en st => match xs with | [] => .ok en st | _ => .stuck) := by
  refine pgs_weak pgs_nil ?_
  rintro v σ H Q ⟨m, en, st, xs, rel, re, rx, out⟩
  cases xs with
  | nil => simp only [RepDs] at rx; exact ⟨rx, out m H σ .refl rel re .refl⟩
  | cons x xs => exact out.elim
theorem assign_cons (h : noStar e = true) (env : Env) : (assignEach (e :: es) env).map (·.2) = assign e env :: (assignEach es env).map (·.2) := by
  cases e <;> first | rfl | cases h
theorem assign_len : ∀ (es : List Expr) (env : Env), (assignEach es env).length = es.length
  | [], _ => rfl
  | e :: es, env => by
    have := assign_len es env
    cases e <;> simp [assignEach, this]
theorem assign_nostar : ∀ {es : List Expr} (h : es.all noStar = true) (env : Env), (assignEach es env).findIdx? (·.1) = none
  | [], _, _ => rfl
  | e :: es, h, env => by
    simp only [List.all_cons, Bool.and_eq_true] at h
    have := assign_nostar h.2 env
    cases e <;> first | (cases h.1; done) | simp [assignEach, List.findIdx?_cons, this]
theorem lgs_cons {ft : Vv → En → Sto → R En} {fs : List D → En → Sto → R En} (h1 : PG X e (LG g own ft)) (h2 : PGs X es (LGs g own fs)) (hs : noStar e = true) : PGs X (e :: es) (LGs g own fun xs en st => match xs with | x :: xs => (ft (.d x) en st).bind fun en st => fs xs en st | [] => .stuck) := by
  refine pgs_weak (pgs_cons h1 h2 (assign_cons hs X.env)) ?_
  rintro v σ H Q ⟨m, en, st, xs, rel, re, rx, out⟩
  cases xs with
  | nil => exact out.elim
  | cons x xs =>
    obtain ⟨w, r, rfl, p, q⟩ := rx.uncons
    refine ⟨w, r, rfl, m, en, st, .d x, rel, re, p, ?_⟩
    dsimp only at out
    cases hf : ft (.d x) en st with
    | stuck => rw [hf] at out; exact out
    | exc _ _ => rw [hf] at out; exact out
    | ok en2 st2 =>
      rw [hf, bind_ok] at out
      exact fun m' H' σ' e' l' r' a' => ⟨m', en2, st2, xs, l', r', q.mono e'.same, OutG.slots a' (OutG.ext e' out)⟩
theorem lg_tup (hK : g.K = X.K) {k : Nat} {fs : List D → En → Sto → R En} (hc : X.calm = true) (h : PGs X es (LGs g own fs)) (hs : es.all noStar = true) (hl : ∀ xs en st en' st', fs xs en st = .ok en' st' → xs.length = es.length) : PG X (.Tuple es k pos) (LG g own fun v en st => match v with | .d (.tup xs) => fs xs en st | _ => .stuck) := by
  refine pg_weak (pg_tup (n := es.length) hc h (assign_len es X.env) (assign_nostar hs X.env)) ?_
  rintro v σ H Q ⟨m, en, st, x, rel, re, rx, out⟩
  dsimp only at out
  split at out
  · rename_i xs
    simp only [RepV, RepD] at rx
    obtain ⟨p, vs, rfl, q1, _, q2, _⟩ := rx
    refine ⟨p, vs, rfl, by rw [← hK]; exact same_tup hm_same q1, ?_, m, en, st, xs, rel, re, q2, out⟩
    rw [← q2.length]
    cases hf : fs xs en st with
    | ok en2 st2 => exact hl _ _ _ _ _ hf
    | stuck => rw [hf] at out; exact out.elim
    | exc _ _ => rw [hf] at out; exact out.elim
  · exact out.elim
def rPut (K : PySem.W.Frag) : TSet := fun o i v H Q => ∃ m st x y z st', Rel K m st H ∧ RepV K m H x o ∧ RepV K m H y i ∧ RepV K m H z v ∧ putV x y z st = .ok () st' ∧ ∀ m' H', Ext m H m' H' → Rel K m' st' H' → Q H'
theorem set_D (hu : X.A.units + 1 < cLine) : PSet X (rPut X.K) := by
  intro pins s σ H o i v ov iv u Q I ro ri rv h
  obtain ⟨m, st, x, y, z, st', rel, rx, ry, rz, e, q⟩ := h
  unfold putV at e
  split at e
  · split at e
    · split at e <;> cases e
      rename_i n k d _ ds hn _ j hj
      obtain ⟨p, hp, rfl⟩ := rx
      simp only [RepV, RepD] at ry
      subst ry
      obtain ⟨w, hu', vs, rfl, r1, l1⟩ := rel.get _ _ _ hn hp
      obtain ⟨r2, x2⟩ := rel.put (ob := .lst (ds.set j d)) (o := .lst (vs.set j v)) hp hn rfl ⟨_, rfl, r1.set rz j, by simpa using l1⟩
      exact set_list pins s σ H _ _ v ov iv u Q I ro ri rv ⟨p, vs, k, j, rfl, rfl, hu', by rw [← r1.length]; exact hj, q m _ x2 r2⟩
    · cases e
  · split at e
    · split at e <;> cases e
      rename_i n yd xd _ _ ob hn _ ob' hp
      obtain ⟨p, hpa, rfl⟩ := rx
      obtain ⟨w, hw, hr⟩ := rel.get _ _ _ hn hpa
      cases ro
      unfold dputO at hp
      split at hp
      · split at hp
        · split at hp <;> cases hp
          rename_i kvs _ k hk hl
          obtain ⟨us, z, rk⟩ := hr
          have : w = .dT us := z
          subst this
          obtain ⟨rfl, ok, b, rfl, hb⟩ := pair_at hk ry
          obtain ⟨r2, x2⟩ := rel.put (ob := .dT false (putA kvs k xd)) (o := .dT (putK us (kP k) v)) hpa hn rfl ⟨_, rfl, rk.put kP_inj ok rz⟩
          exact d_setItem hu I (.t hw hb (by rw [← rk.len]; rw [sizeLine_eq]; omega)) ri rv fun s' I' => ⟨_, I', q m _ x2 r2⟩
        · cases hp
      · split at hp
        · split at hp <;> cases hp
          rename_i kvs _ k hk hl
          obtain ⟨us, z, rk⟩ := hr
          have : w = .dK us := z
          subst this
          obtain ⟨rfl, ok, rfl⟩ := txt_at hk ry
          obtain ⟨r2, x2⟩ := rel.put (ob := .dK false (putA kvs k xd)) (o := .dK (putK us (kS k) v)) hpa hn rfl ⟨_, rfl, rk.put kS_inj ok rz⟩
          exact d_setItem hu I (.k hw (by rw [← rk.len]; rw [sizeLine_eq]; omega)) ri rv fun s' I' => ⟨_, I', q m _ x2 r2⟩
        · cases hp
      · cases hp
    · cases e
  · cases e
def plainSub : Expr → Bool
  | .Slice _ _ _ _ => false
  | _ => true
theorem sub_ok {o i : Expr} (h : plainSub i = true) (env : Env) : ∀ v, assign (.Subscript o i pos) env v = (do
      let ov ← holding [v] (eval o env)
      let iv ← holding [v, ov] (eval i env)
      standAt pos
      holding [v, ov, iv] (setItem ov iv v)
      release [v, ov, iv] []) := by
  intro v
  cases i <;> first | rfl | cases h
theorem lg_sub (hK : g.K = X.K) (hu : X.A.units + 1 < cLine) {o i : Expr} {fo fi : En → Sto → R Vv} (ho : PE X o (LE g fo)) (hi : PE X i (LE g fi)) (hp : plainSub i = true) : PG X (.Subscript o i pos) (LG g own fun v en st => (fo en st).bind fun x st => (fi en st).bind fun y st => (putV x y v st).bind fun _ st => .ok en st) := by
  refine pg_weak (pg_sub ho hi (set_D hu) (sub_ok hp X.env)) ?_
  rintro v σ H Q ⟨m, en, st, z, rel, re, rz, out⟩
  refine ⟨m, en, st, rel, re, OutG.bind out fun x st1 m1 H1 v1 e1 x1 l1 rx o1 => ?_⟩
  refine ⟨m1, en, st1, l1, re.ext x1, OutG.bind o1 fun y st2 m2 H2 w e2 x2 l2 ry o2 => ?_⟩
  rw [← hK]
  cases hp : putV x y z st2 with
  | stuck => rw [hp] at o2; exact o2.elim
  | exc _ _ => rw [hp] at o2; exact o2.elim
  | ok u st3 =>
    rw [hp, bind_ok] at o2
    exact ⟨m2, st2, x, y, z, st3, l2, rx.ext x2, ry, (rz.ext x1).ext x2, hp, fun m' H' x' l' => o2 m' H' σ x' l' (((re.ext x1).ext x2).ext x') .refl⟩
end TW
namespace TW
open PySem PySem.Spec PyProof.Rows L2
variable {X : Cx} {g : Gx} {a b c e tg : Expr} {es : List Expr} {pos : Pos} {fa fb fc : En → Sto → R Vv} {fr : En → Sto → R (List Vv)}

/-! ### comprehensions -/
def Gx.quiet (g : Gx) : Gx := { g with W := fun _ _ _ _ => False }
theorem RepE.wipe {K : PySem.W.Frag} {m : Mp} {H : Hp} {en : En} {σ : L2.St} (h : RepE K m H en σ) : ∀ own : List Nat, RepE K m H (wipeE en own) (L2.wipe σ own)
  | [] => h
  | v :: vs => by
    have ih := RepE.wipe h vs
    refine ⟨by simp only [wipeE, L2.wipe, List.length_set]; exact ih.1, fun i x e => ?_⟩
    simp only [wipeE, L2.wipe] at e ⊢
    by_cases hi : v = i
    · subst hi
      by_cases hl : v < (wipeE en vs).length
      · rw [List.getElem?_set_self hl] at e; cases e
      · rw [List.getElem?_eq_none (by simp; omega)] at e; cases e
    · rw [List.getElem?_set_ne hi] at e ⊢
      exact ih.2 i x e
theorem RepV.sub {K : PySem.W.Frag} {m m' : Mp} {H H' : Hp} {x : Vv} {v : V} (h : RepV K m H x v) (had : ∃ t, m'.ad = m.ad ++ t) (e : Same (hm m H) (hm m' H')) : RepV K m' H' x v := by
  cases x with
  | d y => exact RepD.mono e _ _ h
  | ref n =>
    obtain ⟨p, h3, h4⟩ := h
    obtain ⟨t, ht⟩ := had
    exact ⟨p, by rw [ht, List.getElem?_append_left (List.getElem?_eq_some_iff.mp h3).1]; exact h3, h4⟩
  | exn z =>
    obtain ⟨a, cls, d, h1, h2, h3, h4⟩ := h
    refine ⟨a, cls, d, h1, e _ _ h2, h3, ?_⟩
    cases d with
    | none => exact h4
    | some b =>
      obtain ⟨vs, q1, q2⟩ := h4
      exact ⟨vs, e _ _ q1, RepDs.mono e _ _ q2⟩
theorem RepE.sub {K : PySem.W.Frag} {m m' : Mp} {H H' : Hp} {en : En} {σ : L2.St} (h : RepE K m H en σ) (had : ∃ t, m'.ad = m.ad ++ t) (e : Same (hm m H) (hm m' H')) : RepE K m' H' en σ :=
  ⟨h.1, fun i x q => by
    obtain ⟨v, h1, h2⟩ := h.2 i x q
    exact ⟨v, h1, h2.sub had e⟩⟩
theorem wipe_agree {σ σ' : L2.St} {own : List Nat} (a : Agree (· ∈ own) σ σ') : L2.wipe σ' own = L2.wipe σ own := by
  have key : ∀ (own' : List Nat), (∀ x ∈ own', x ∈ own) → ∀ (i : Nat), (i ∈ own' → True) → (∀ j, j ∉ own' → (j ∉ own → (L2.wipe σ' own')[j]? = (L2.wipe σ own')[j]?)) ∧ (∀ j, j ∈ own' → (L2.wipe σ' own')[j]? = (L2.wipe σ own')[j]?) := by
    intro own'
    induction own' with
    | nil => exact fun _ i _ => ⟨fun j _ hj => a.eq j hj, fun j hj => nomatch hj⟩
    | cons v vs ih =>
      intro hs i _
      obtain ⟨h1, h2⟩ := ih (fun x hx => hs x (List.mem_cons_of_mem _ hx)) i (fun _ => trivial)
      have hl : (L2.wipe σ' vs).length = (L2.wipe σ vs).length := by rw [wipe_length, wipe_length, a.len]
      refine ⟨fun j hj ho => ?_, fun j hj => ?_⟩
      · simp only [L2.wipe]
        have hne : v ≠ j := fun e => hj (by simp [e])
        rw [List.getElem?_set_ne hne, List.getElem?_set_ne hne]
        exact h1 j (fun z => hj (List.mem_cons_of_mem _ z)) ho
      · simp only [L2.wipe]
        by_cases hv : v = j
        · subst hv
          by_cases hlt : v < (L2.wipe σ vs).length
          · rw [List.getElem?_set_self hlt, List.getElem?_set_self (by rw [hl]; exact hlt)]
          · rw [List.getElem?_eq_none (by simp; omega), List.getElem?_eq_none (by simp; omega)]
        · rw [List.getElem?_set_ne hv, List.getElem?_set_ne hv]
          rcases List.mem_cons.mp hj with e | e
          · exact absurd e.symm hv
          · exact h2 j e
  obtain ⟨h1, h2⟩ := key own (fun _ h => h) 0 (fun _ => trivial)
  apply List.ext_getElem?
  intro j
  by_cases hj : j ∈ own
  · exact h2 j hj
  · exact h1 j hj hj
theorem wipe_wipe_agree {σ : L2.St} {own : List Nat} {σ2 : L2.St} (a : Agree (· ∈ own) (L2.wipe σ own) σ2) : L2.wipe σ2 own = L2.wipe σ own := by
  rw [wipe_agree a]
  have : ∀ (vs : List Nat) (τ : L2.St), (∀ v ∈ vs, ∀ h : v < τ.length, τ[v]? = some none) → L2.wipe τ vs = τ := by
    intro vs
    induction vs with
    | nil => intro τ _; rfl
    | cons v vs ih =>
      intro τ h
      simp only [L2.wipe]
      rw [ih τ (fun w hw => h w (List.mem_cons_of_mem _ hw))]
      apply List.ext_getElem?
      intro j
      by_cases hv : v = j
      · subst hv
        by_cases hl : v < τ.length
        · rw [List.getElem?_set_self hl, h v (by simp) hl]
        · rw [List.getElem?_eq_none (by simp; omega), List.getElem?_eq_none (by omega)]
      · rw [List.getElem?_set_ne hv]
  refine this own _ fun v hv hl => ?_
  cases hq : (L2.wipe σ own)[v]? with
  | none => rw [List.getElem?_eq_none_iff] at hq; omega
  | some o =>
    cases o with
    | none => rfl
    | some x => exact absurd hv (wipe_some hq).2
def LTq (g : Gx) (ft : En → Sto → R Bool) : TT := LT g.quiet ft
theorem calm_ok {α : Type} {r : R α} {x : α} {st : Sto} (h : r.calm = .ok x st) : r = .ok x st := by
  cases r with
  | ok _ _ => exact h
  | exc _ _ => cases h
  | stuck => cases h
theorem lf_lc {elt iter : Expr} {ifs : List Expr} {scope : Scope} {own : List (Str × Nat)} {fi : En → Sto → R Wl} {fg : Vv → En → Sto → R En} {ft : En → Sto → R Bool} {fe : En → Sto → R Vv} (hK : g.K = X.K) (hc : X.calm = true) (hN : X.N.Nodup)
    (hi : PI X tg iter (LI g fi)) (ok : BlkOk X.N X.env.scope scope own)
    (hg : ∀ (s : Shared) (H : Hp) (C : Addr) (cl : List (Str × Addr)) (fp : List Addr), PG (X.blk s H scope (compEnvC scope cl C X.env) fp) tg (LG g.quiet (· ∈ own.map (·.2)) fg))
    (ht : ∀ (s : Shared) (H : Hp) (C : Addr) (cl : List (Str × Addr)) (fp : List Addr), PTs (X.blk s H scope (compEnvC scope cl C X.env) fp) ifs (LT g.quiet ft))
    (he : ∀ (s : Shared) (H : Hp) (C : Addr) (cl : List (Str × Addr)) (fp : List Addr), PE (X.blk s H scope (compEnvC scope cl C X.env) fp) elt (LE g.quiet fe)) (hs : ∀ x, foldedSetIterable iter X.env x = pure x) :
    ∀ σ H Q, LF g (fun en st => (fi en st).bind fun w st => if w.xs.length ≤ sizeLine then (lcLoop w.pins (fun x en st => fg (.d x) en st) ft fe (wipeE en (own.map (·.2))) w.xs [] st).calm else .stuck) σ H Q →
      tLc (LI g fi) (LG g.quiet (· ∈ own.map (·.2)) fg) (LT g.quiet ft) (LE g.quiet fe) (own.map (·.2)) σ H Q := by
  rintro σ H Q ⟨m, en, st, rel, re, out⟩
  generalize hown : own.map (·.2) = ow at *
  refine ⟨m, en, st, rel, re, OutF.bind out fun w st1 m1 H1 J e1 x1 l1 wk o1 => ?_⟩
  obtain ⟨xs, ps⟩ := w
  dsimp only at o1
  intro D hD
  have re1 := (re.ext x1).wipe ow
  split at o1
  case isFalse => exact o1.elim
  rename_i hlen
  -- what holds between two turns
  refine ⟨fun i k Hk => k = xs.length - i ∧ i ≤ xs.length ∧ ∃ (mk : Mp) (sk : Sto) (acc : List TW.D) (vs : List V), mk.hid = D :: m1.hid ∧ (∃ t, mk.ad = m1.ad ++ t) ∧ (∀ a ∈ m1.hid, Hk a = H1 a) ∧ Fz H1 Hk ∧ Same (hm m1 H1) (TW.hm mk Hk) ∧ Rel g.K mk sk Hk ∧
      Hk D = some (.lst vs) ∧ RepDs g.K (TW.hm mk Hk) acc vs ∧ acc.length ≤ i ∧ OutF g m1 H1 σ Q (lcLoop ps (fun x en st => fg (.d x) en st) ft fe (wipeE en ow) (xs.drop i) acc sk).calm, ⟨xs.length, ?_⟩, ?_⟩
  · obtain ⟨h1, h2⟩ := l1.hide (o := .lst []) hD (fun _ z => nomatch z)
    have nh := (l1.fresh_ne hD).2
    refine ⟨by simp, Nat.zero_le _, ⟨m1.ad, D :: m1.hid⟩, st1, [], [], rfl, ⟨[], by simp⟩, fun a ha => upd_ne fun e => nh (e ▸ ha), fun a ob u h => by rw [upd_ne (ne_of_none h hD)]; exact h, by rw [h2]; exact .refl _, h1, upd_same, .nil, Nat.le_refl _, by simpa using o1⟩
  · rintro i k Hk ⟨rfl, hi, mk, sk, acc, vs, hh, ⟨t, had⟩, hkeep, hfz, hsame, hrel, hHD, hacc, hal, ho⟩
    by_cases hlt : i < xs.length
    · have hx : xs[i]? = some xs[i] := List.getElem?_eq_getElem hlt
      have hdrop : xs.drop i = xs[i] :: xs.drop (i + 1) := List.drop_eq_getElem_cons hlt
      rw [hdrop] at ho
      simp only [lcLoop] at ho
      split at ho
      case isFalse => exact ho.elim
      rename_i hpin
      have hDm : D ∈ mk.hid := by rw [hh]; simp
      refine .inr ⟨wk.go mk Hk sk ⟨⟨t, had⟩, hfz⟩ hsame hrel hpin i _ hx, fun H' => ∃ (mk : Mp) (sk : Sto) (acc : List TW.D) (vs : List V), mk.hid = D :: m1.hid ∧ (∃ t, mk.ad = m1.ad ++ t) ∧ (∀ a ∈ m1.hid, H' a = H1 a) ∧ Fz H1 H' ∧ Same (hm m1 H1) (TW.hm mk H') ∧ Rel g.K mk sk H' ∧
        H' D = some (.lst vs) ∧ RepDs g.K (TW.hm mk H') acc vs ∧ acc.length ≤ i + 1 ∧ OutF g m1 H1 σ Q (lcLoop ps (fun x en st => fg (.d x) en st) ft fe (wipeE en ow) (xs.drop (i + 1)) acc sk).calm, fun H' p' => ⟨xs.length - (i + 1), by omega, rfl, by omega, p'⟩, fun x H' hy => ?_⟩
      obtain ⟨y1, y2, y3⟩ := wk.yld mk Hk sk ⟨⟨t, had⟩, hfz⟩ hsame hrel hpin i _ x H' hx hy
      have hs1 : Same (hm m1 H1) (hm mk H') := hsame.trans y1.same
      have k1 : ∀ a ∈ m1.hid, H' a = H1 a := fun a ha => (y1.keep a (by rw [hh]; exact List.mem_cons_of_mem _ ha)).trans (hkeep a ha)
      -- the item's store
      refine ⟨mk, wipeE en ow, sk, .d xs[i], y2, re1.sub ⟨t, had⟩ hs1, y3, ?_⟩
      cases hg1 : fg (.d xs[i]) (wipeE en ow) sk with
      | stuck => rw [hg1] at ho; exact ho.elim
      | exc _ _ => rw [hg1] at ho; exact ho.elim
      | ok en2 s2 =>
        rw [hg1, bind_ok] at ho
        intro m2 H2 σ2 x2 l2 r2 ag
        refine ⟨wipe_wipe_agree ag, m2, en2, s2, l2, r2, ?_⟩
        cases ht1 : ft en2 s2 with
        | stuck => rw [ht1] at ho; exact ho.elim
        | exc _ _ => rw [ht1] at ho; exact ho.elim
        | ok k s3 =>
          rw [ht1, bind_ok] at ho
          intro m3 H3 k' x3 l3 hk'
          subst hk'
          have x13 := x2.trans x3
          have h3 : m3.hid = D :: m1.hid := by rw [x13.hid, hh]
          have ad3 : ∃ t, m3.ad = m1.ad ++ t := by
            obtain ⟨t2, e2⟩ := x13.pre
            exact ⟨t ++ t2, by rw [e2, had]; simp⟩
          have kp3 : ∀ a ∈ m1.hid, H3 a = H1 a := fun a ha => (x13.keep a (by rw [hh]; exact List.mem_cons_of_mem _ ha)).trans (k1 a ha)
          have D3 : H3 D = some (.lst vs) := by rw [x13.keep D hDm, y1.keep D hDm]; exact hHD
          have acc3 : RepDs g.K (hm m3 H3) acc vs := (hacc.mono y1.same).mono x13.same
          have fz3 : Fz H1 H3 := fun a ob u h => x13.frz a ob u (y1.frz a ob u (hfz a ob u h))
          cases k with
          | false => exact ⟨m3, s3, acc, vs, h3, ad3, kp3, fz3, hs1.trans x13.same, l3, D3, acc3, by omega, ho⟩
          | true =>
            rw [if_pos rfl] at ho ⊢
            refine ⟨m3, en2, s3, l3, r2.ext x3, ?_⟩
            cases he1 : fe en2 s3 with
            | stuck => rw [he1] at ho; exact ho.elim
            | exc _ _ => rw [he1] at ho; exact ho.elim
            | ok y s4 =>
              rw [he1, bind_ok] at ho
              intro m4 H4 w x4 l4 ry
              cases y with
              | ref _ => exact ho.elim
              | exn _ => exact ho.elim
              | d z =>
                have h4 : m4.hid = D :: m1.hid := by rw [x4.hid, h3]
                have Dm4 : D ∈ m4.hid := by rw [h4]; simp
                have D4 : H4 D = some (.lst vs) := by rw [x4.keep D (by rw [h3]; simp)]; exact D3
                refine ⟨vs, D4, by rw [← hacc.length]; omega, ?_⟩
                obtain ⟨q1, q2⟩ := l4.hput (o := .lst (vs ++ [w])) (fun _ z => nomatch z) Dm4
                have nD : D ∉ m1.hid := (l1.fresh_ne hD).2
                refine ⟨m4, s4, acc ++ [z], vs ++ [w], h4, ?_, fun a ha => ?_, fun a ob u h => by rw [upd_ne (ne_of_none h hD)]; exact x4.frz a ob u (fz3 a ob u h), ?_, q1, upd_same, ?_, by rw [List.length_append, List.length_singleton]; omega, ho⟩
                · obtain ⟨t3, e3⟩ := ad3
                  obtain ⟨t4, e4⟩ := x4.pre
                  exact ⟨t3 ++ t4, by rw [e4, e3]; simp⟩
                · have ne : a ≠ D := fun e => nD (e ▸ ha)
                  rw [upd_ne ne]
                  exact (x4.keep a (by rw [h3]; exact List.mem_cons_of_mem _ ha)).trans (kp3 a ha)
                · rw [q2]
                  exact (hs1.trans x13.same).trans x4.same
                · rw [q2]
                  exact (acc3.mono x4.same).append (.cons ry .nil)
    · have hi2 : i = xs.length := by omega
      subst hi2
      rw [List.drop_length] at ho
      simp only [lcLoop] at ho
      split at ho
      case isFalse => exact ho.elim
      rename_i hpin
      refine .inl ⟨wk.stop mk Hk sk ⟨⟨t, had⟩, hfz⟩ hsame hrel hpin, ?_⟩
      have nD : D ∉ m1.hid := (l1.fresh_ne hD).2
      have e : mk = ⟨mk.ad, D :: m1.hid⟩ := by rw [← hh]
      rw [e] at hrel hacc hsame
      obtain ⟨q1, q2⟩ := Rel.show (m := ⟨mk.ad, m1.hid⟩) hrel nD
      have := ho ⟨mk.ad, m1.hid⟩ (out1 Hk D) vs D ⟨⟨t, had⟩, rfl, fun a ha => ?_, by rw [q2]; exact hsame, fun a ob u h => by unfold out1; rw [if_neg (ne_of_none h hD)]; exact hfz a ob u h⟩ q1 (by rw [q2]; exact hacc) (by omega) (by unfold out1; simp)
      · rw [out1_upd hHD] at this
        exact this
      · unfold out1
        have ne : a ≠ D := fun e => nD (e ▸ ha)
        rw [if_neg ne]
        exact hkeep a ha
end TW
namespace TW
open PySem PySem.Spec PyProof.Rows L2
variable {X : Cx} {g : Gx} {a b c e tg : Expr} {es : List Expr} {pos : Pos} {fa fb fc : En → Sto → R Vv} {fr : En → Sto → R (List Vv)}

/-! ### statements -/
def OutS (g : Gx) (m : Mp) (H : Hp) (E : L2.Ends) : RS → Prop
  | .nx en st => ∀ m' H' σ', Ext m H m' H' → Rel g.K m' st H' → RepE g.K m' H' en σ' → E.nx σ' H'
  | .rt v st => ∀ m' H' w, Ext m H m' H' → Rel g.K m' st H' → RepV g.K m' H' v w → E.rt w H'
  | .bk en st => ∀ m' H' σ', Ext m H m' H' → Rel g.K m' st H' → RepE g.K m' H' en σ' → E.bk σ' H'
  | .ct en st => ∀ m' H' σ', Ext m H m' H' → Rel g.K m' st H' → RepE g.K m' H' en σ' → E.ct σ' H'
  | .exc x en st => ∀ m' H' σ' cls d, Ext m H m' H' → Rel g.K m' st H' → RepE g.K m' H' en σ' → RepX g.K m' H' x cls d → g.W cls d σ' H'
  | .stuck => False
theorem OutS.ext {m m1 : Mp} {H H1 : Hp} {E : L2.Ends} {r : RS} (e : Ext m H m1 H1) (h : OutS g m H E r) : OutS g m1 H1 E r := by
  cases r with
  | nx en st => exact fun m' H' v q => h m' H' v (e.trans q)
  | rt en st => exact fun m' H' v q => h m' H' v (e.trans q)
  | bk en st => exact fun m' H' v q => h m' H' v (e.trans q)
  | ct en st => exact fun m' H' v q => h m' H' v (e.trans q)
  | exc x en st => exact fun m' H' v c d q => h m' H' v c d (e.trans q)
  | stuck => exact h
def LS (g : Gx) (f : En → Sto → RS) : TS := fun E σ H => ∃ m en st, Rel g.K m st H ∧ RepE g.K m H en σ ∧ OutS g m H E (f en st)
/-- an expression within a statement -/
theorem OutS.go {m : Mp} {H : Hp} {σ : L2.St} {E : L2.Ends} {α β : Type} {rep : Mp → Hp → α → β → Prop} {r : R α} {en : En} {f : α → Sto → RS} {P : β → Hp → Prop} (h : OutS g m H E (r.go en f)) (re : RepE g.K m H en σ)
    (k : ∀ x st m' H' v, r = .ok x st → Ext m H m' H' → Rel g.K m' st H' → rep m' H' x v → OutS g m' H' E (f x st) → P v H') : Out g m H σ rep P r := by
  cases r with
  | ok x st => exact fun m' H' v e l q => k x st m' H' v rfl e l q (OutS.ext e h)
  | exc x st => exact fun m' H' c d e l q => h m' H' σ c d e l (re.ext e) q
  | stuck => exact h
theorem ls_nil : PSs X [] (LS g fun en st => .nx en st) := by
  refine pss_weak pss_nil ?_
  rintro E σ H ⟨m, en, st, rel, re, out⟩
  exact out m H σ .refl rel re
theorem ls_cons {s : Stmt} {ss : List Stmt} {f1 f2 : En → Sto → RS} (h1 : PS X s (LS g f1)) (h2 : PSs X ss (LS g f2)) : PSs X (s :: ss) (LS g fun en st => (f1 en st).seq f2) := by
  refine pss_weak (pss_cons h1 h2) ?_
  rintro E σ H ⟨m, en, st, rel, re, out⟩
  refine ⟨m, en, st, rel, re, ?_⟩
  dsimp only at out
  cases hf : f1 en st with
  | nx en2 st2 =>
    rw [hf] at out
    exact fun m' H' σ' x' l' r' => ⟨m', en2, st2, l', r', OutS.ext x' out⟩
  | rt _ _ => rw [hf] at out; exact out
  | bk _ _ => rw [hf] at out; exact out
  | ct _ _ => rw [hf] at out; exact out
  | exc _ _ _ => rw [hf] at out; exact out
  | stuck => rw [hf] at out; exact out
theorem ls_pass : PS X (.Pass pos) (LS g fun en st => .nx en st) := by
  refine ps_weak ps_pass ?_
  rintro E σ H ⟨m, en, st, rel, re, out⟩
  exact out m H σ .refl rel re
theorem ls_expr (ha : PE X a (LE g fa)) (hs : swapsWith a none pos.line X.env = pure false) : PS X (.Expr a pos) (LS g fun en st => (fa en st).go en fun _ st => .nx en st) := by
  refine ps_weak (ps_expr ha hs) ?_
  rintro E σ H ⟨m, en, st, rel, re, out⟩
  refine ⟨m, en, st, rel, re, OutS.go out re fun x st1 m1 H1 v e1 x1 l1 rx o1 => ?_⟩
  exact o1 m1 H1 σ .refl l1 (re.ext x1)
theorem ls_ret (ha : PE X a (LE g fa)) : PS X (.Return (some a) pos) (LS g fun en st => (fa en st).go en fun v st => .rt v st) := by
  refine ps_weak (ps_ret ha) ?_
  rintro E σ H ⟨m, en, st, rel, re, out⟩
  refine ⟨m, en, st, rel, re, OutS.go out re fun x st1 m1 H1 v e1 x1 l1 rx o1 => ?_⟩
  exact o1 m1 H1 v .refl l1 rx
theorem ls_if {ss ss' : List Stmt} {f1 f2 : En → Sto → RS} (ha : PT X a (LT g (tt fa))) (h1 : PSs X ss (LS g f1)) (h2 : PSs X ss' (LS g f2)) : PS X (.If a ss ss' pos) (LS g fun en st => ((fa en st).bind truV).go en fun k st => if k then f1 en st else f2 en st) := by
  refine ps_weak (ps_if ha h1 h2) ?_
  rintro E σ H ⟨m, en, st, rel, re, out⟩
  refine ⟨m, en, st, rel, re, OutS.go out re fun k st1 m1 H1 v e1 x1 l1 rk o1 => ?_⟩
  subst rk
  cases k with
  | true => exact ⟨m1, en, st1, l1, re.ext x1, o1⟩
  | false => exact ⟨m1, en, st1, l1, re.ext x1, o1⟩
/-- a store -/
theorem OutS.store {m : Mp} {H : Hp} {σ : L2.St} {E : L2.Ends} {r : R En} {en : En} {own : Nat → Prop} {f : En → Sto → RS} {P : L2.St → Hp → Prop} (h : OutS g m H E (r.calm.go en f))
    (k : ∀ en2 st m' H' σ', r = .ok en2 st → Ext m H m' H' → Rel g.K m' st H' → RepE g.K m' H' en2 σ' → OutS g m' H' E (f en2 st) → P σ' H') : OutG g own σ m H P r := by
  cases r with
  | ok x st => exact fun m' H' v e l q _ => k x st m' H' v rfl e l q (OutS.ext e h)
  | exc x st => exact h
  | stuck => exact h
theorem ls_asg_of {s : Stmt} {own : Nat → Prop} {fg : Vv → En → Sto → R En} (h : PS X s (tAsg (LE g fa) (LG g own fg))) : PS X s (LS g fun en st => (fa en st).go en fun v st => (fg v en st).calm.go en fun en st => .nx en st) := by
  refine ps_weak h ?_
  rintro E σ H ⟨m, en, st, rel, re, out⟩
  refine ⟨m, en, st, rel, re, OutS.go out re fun x st1 m1 H1 v e1 x1 l1 rx o1 => ?_⟩
  refine ⟨m1, en, st1, x, l1, re.ext x1, rx, OutS.store o1 fun en2 st2 m2 H2 σ2 e2 x2 l2 r2 o2 => ?_⟩
  exact o2 m2 H2 σ2 .refl l2 r2
theorem ls_asgName_of {s : Stmt} {i : Nat} {t : TE} (h : PS X s (tAsg t (gName i))) (ht : ∀ σ H Q, LE g fa σ H Q → t σ H Q) : PS X s (LS g fun en st => (fa en st).go en fun v st => (R.ok (en.set i (some v)) st).calm.go en fun en st => .nx en st) := by
  refine ps_weak h ?_
  rintro E σ H ⟨m, en, st, rel, re, out⟩
  refine ht _ _ _ ⟨m, en, st, rel, re, OutS.go out re fun x st1 m1 H1 v e1 x1 l1 rx o1 => ?_⟩
  exact o1 m1 H1 _ .refl l1 ((re.ext x1).set rx i)
theorem ip_D (op : Operator) : PIp X op (fun v w H Q => r2 X.K (augD op) v w H Q) := by
  intro pins s σ H x y v u Q I rx ry h
  obtain ⟨m, st, a, b, z, rel, ra, rb, e, q⟩ := h
  unfold augD at e
  split at e
  · cases e
    rw [rep_int ra] at rx
    rw [rep_int rb] at ry
    exact iop_add pins s σ H _ _ v u Q I rx ry ⟨_, _, rfl, rfl, q.int rel⟩
  · split at e <;> cases e
    rename_i hl
    obtain ⟨rfl, l1, o1⟩ := rep_str ra
    obtain ⟨rfl, l2, o2⟩ := rep_str rb
    exact iop_add_str pins s σ H _ _ v u Q I rx ry ⟨_, _, rfl, rfl, hl, q.str rel (by rw [len_append]; exact hl) (strOk_append o1 o2)⟩
  · cases e
    rw [rep_int ra] at rx
    rw [rep_int rb] at ry
    exact iop_sub pins s σ H _ _ v u Q I rx ry ⟨_, _, rfl, rfl, q.int rel⟩
  · cases e
theorem ls_aug (hK : g.K = X.K) {i : Nat} {x : Str} {op : Operator} {p : Pos} (hN : X.N.Nodup) (hi : X.N[i]? = some x) (hx : Loc X.env.scope x) (hf : X.fn x = true ∨ X.env.scope.names.lookup x = some .local) (ha : PE X a (LE g fa)) :
    PS X (.AugAssign (.Name x p) op a pos) (LS g fun en st => match en[i]? with
      | some (some x) => (fa en st).go en fun y st => (op2 (augD op) x y st).go en fun z st => .nx (en.set i (some z)) st
      | _ => .stuck) := by
  refine ps_weak (ps_aug hN hi hx ha (ip_D op) hf) ?_
  rintro E σ H ⟨m, en, st, rel, re, out⟩
  dsimp only at out
  split at out
  · rename_i y hy
    obtain ⟨v, h1, h2⟩ := re.2 _ _ hy
    refine ⟨v, h1, m, en, st, rel, re, OutS.go out re fun z st1 m1 H1 w e1 x1 l1 rz o1 => ?_⟩
    rw [← hK]
    refine out_op2 (g := g) (σ := σ) l1 (h2.ext x1) rz (OutS.go o1 (re.ext x1) fun u st2 m2 H2 w2 e2 x2 l2 ru o2 => ?_)
    exact o2 m2 H2 _ .refl l2 (((re.ext x1).ext x2).set ru i)
  · exact out.elim
theorem ls_for {iter : Expr} {body : List Stmt} {own : Nat → Prop} {fi : En → Sto → R Wl} {fg : Vv → En → Sto → R En} {fs : En → Sto → RS} (hp : PassesOwn (model X.prog X.w) X.A X.env X.xe) (hc : X.calm = true) (hi : PI X tg iter (LI g fi)) (hg : PG X tg (LG g own fg)) (hb : PSs X body (LS g fs))
    (hs : ∀ x, foldedSetIterable iter X.env x = pure x) : PS X (.For tg iter body [] pos) (LS g fun en st => (fi en st).go en fun w st => forLoop w.pins (fun x en st => fg (.d x) en st) fs w.xs en st) := by
  refine ps_weak (ps_for hp hc hi hg hb hs) ?_
  rintro E σ H ⟨m, en, st, rel, re, out⟩
  refine ⟨m, en, st, rel, re, OutS.go out re fun w st1 m1 H1 J e1 x1 l1 wk o1 => ?_⟩
  obtain ⟨xs, ps⟩ := w
  dsimp only at o1
  refine ⟨fun i k σk Hk => k = xs.length - i ∧ i ≤ xs.length ∧ ∃ mk ek sk, Ext m1 H1 mk Hk ∧ Rel g.K mk sk Hk ∧ RepE g.K mk Hk ek σk ∧ OutS g m1 H1 E (forLoop ps (fun x en st => fg (.d x) en st) fs (xs.drop i) ek sk),
    ⟨xs.length, by simp, Nat.zero_le _, m1, en, st1, .refl, l1, re.ext x1, by simpa using o1⟩, ?_⟩
  rintro i k σk Hk ⟨rfl, hi, mk, ek, sk, xk, lk, rk, ok⟩
  by_cases hlt : i < xs.length
  · have hx : xs[i]? = some xs[i] := List.getElem?_eq_getElem hlt
    rw [List.drop_eq_getElem_cons hlt] at ok
    simp only [forLoop] at ok
    split at ok
    case isFalse => exact ok.elim
    rename_i hpin
    refine .inr ⟨wk.go mk Hk sk ⟨xk.pre, xk.frz⟩ xk.same lk hpin i _ hx, fun σ' H' => ∃ mk ek sk, Ext m1 H1 mk H' ∧ Rel g.K mk sk H' ∧ RepE g.K mk H' ek σ' ∧ OutS g m1 H1 E (forLoop ps (fun x en st => fg (.d x) en st) fs (xs.drop (i + 1)) ek sk),
      fun σ' H' h => ⟨xs.length - (i + 1), by omega, rfl, by omega, h⟩, fun x H' hy => ?_⟩
    obtain ⟨y1, y2, y3⟩ := wk.yld mk Hk sk ⟨xk.pre, xk.frz⟩ xk.same lk hpin i _ x H' hx hy
    have ok' := OutS.ext (xk.trans y1) ok
    refine ⟨mk, ek, sk, .d xs[i], y2, rk.ext y1, y3, OutS.store ok' fun en2 st2 m2 H2 σ2 e2 x2 l2 r2 o2 => ?_⟩
    refine ⟨m2, en2, st2, l2, r2, ?_⟩
    have xx := (xk.trans y1).trans x2
    rw [e2] at ok
    have ok2 : OutS g m1 H1 E ((fs en2 st2).turn fun en st => forLoop ps (fun x en st => fg (.d x) en st) fs (xs.drop (i + 1)) en st) := ok
    cases hf : fs en2 st2 with
    | nx en3 st3 => rw [hf] at ok2; exact fun m' H' σ' x' l' r' => ⟨m', en3, st3, xx.trans x', l', r', ok2⟩
    | ct en3 st3 => rw [hf] at ok2; exact fun m' H' σ' x' l' r' => ⟨m', en3, st3, xx.trans x', l', r', ok2⟩
    | bk en3 st3 => rw [hf] at ok2; exact fun m' H' σ' x' l' r' => ok2 m' H' σ' (xx.trans x') l' r'
    | rt v st3 => rw [hf] at ok2; exact fun m' H' w x' l' r' => ok2 m' H' w (xx.trans x') l' r'
    | exc z en3 st3 => rw [hf] at ok2; exact fun m' H' σ' c d x' l' r' => ok2 m' H' σ' c d (xx.trans x') l' r'
    | stuck => rw [hf] at ok2; exact ok2
  · have hi2 : i = xs.length := by omega
    subst hi2
    rw [List.drop_length] at ok
    simp only [forLoop] at ok
    split at ok
    case isFalse => exact ok.elim
    rename_i hpin
    exact .inl ⟨wk.stop mk Hk sk ⟨xk.pre, xk.frz⟩ xk.same lk hpin, ok mk Hk σk xk lk rk⟩

/-! ### a def -/
/-- what a body's end is to the caller: new objects are left to themselves where data alone is told -/
def endF (n : Nat) : RS → R Vv
  | .rt (.d x) st => .ok (.d x) (st.take n)
  | .rt (.ref k) st => if k < n then .ok (.ref k) (st.take n) else .ok (.ref k) st
  | .nx _ st => .ok (.d .non) (st.take n)
  | .exc x _ st => .exc x (st.take n)
  | _ => .stuck
def startE (n : Nat) (vs : List Vv) : En := vs.map some ++ List.replicate (n - vs.length) none
def runF (n : Nat) (f : En → Sto → RS) (vs : List Vv) (st : Sto) : R Vv := endF st.length (f (startE n vs) st)
def spD (K : PySem.W.Frag) (mg : Str → Option Value) (n : Nat) (f : List Vv → Sto → R Vv) : Sp := fun vs H Q E => ∃ m xs st, xs.length = n ∧ Rel K m st H ∧ RepVs K m H xs vs ∧ match f xs st with
  | .ok x st' => ∀ m' H' v, Ext m H m' H' → Rel K m' st' H' → RepV K m' H' x v → Q v H'
  | .exc x st' => ∀ m' H' cls d, Ext m H m' H' → Rel K m' st' H' → RepX K m' H' x cls d → E cls d H'
  | .stuck => False
theorem rep_start {K : PySem.W.Frag} {m : Mp} {H : Hp} {N : List Str} : ∀ {xs : List Vv} {vs : List V}, RepVs K m H xs vs → RepE K m H (startE N.length xs) (L2.start N vs) := by
  intro xs vs h
  have hl : xs.length = vs.length := Paired.length h
  unfold startE L2.start
  refine ⟨by simp [hl], fun i x e => ?_⟩
  by_cases hi : i < xs.length
  · rw [List.getElem?_append_left (by simpa using hi), List.getElem?_map] at e
    rw [List.getElem?_append_left (by rw [List.length_map, ← hl]; exact hi), List.getElem?_map]
    cases hx : xs[i]? with
    | none => rw [hx] at e; cases e
    | some y =>
      rw [hx] at e
      have e' : y = x := Option.some.inj (Option.some.inj e)
      subst e'
      have key : ∀ {xs : List Vv} {vs : List V} {i : Nat}, RepVs K m H xs vs → xs[i]? = some y → ∃ v, vs[i]? = some v ∧ RepV K m H y v := by
        intro xs vs i h
        induction h generalizing i with
        | nil => intro z; simp at z
        | cons p q ih =>
          cases i with
          | zero => intro z; simp at z; subst z; exact ⟨_, rfl, p⟩
          | succ j => intro z; simpa using ih (by simpa using z)
      obtain ⟨v, h1, h2⟩ := key h hx
      exact ⟨v, by rw [h1]; rfl, h2⟩
  · rw [List.getElem?_append_right (by simpa using hi)] at e
    rw [List.getElem?_replicate] at e
    split at e <;> cases e
theorem RepX.drop {K : PySem.W.Frag} {m m' : Mp} {H : Hp} {x : Xn} {cls : Value} {d : Option Addr} (h : RepX K m' H x cls d) (had : ∃ t, m'.ad = m.ad ++ t) (hh : m'.hid = m.hid) : RepX K m H x cls d := by
  obtain ⟨t, ht⟩ := had
  have sm : Same (hm m' H) (hm m H) := fun a u h => by
    obtain ⟨h1, h2⟩ := hm_some.mp h
    exact hm_some.mpr ⟨⟨fun z => h1.1 (by rw [ht]; exact List.mem_append_left _ z), by rw [← hh]; exact h1.2⟩, h2⟩
  refine ⟨h.1, ?_⟩
  have h2 := h.2
  cases d with
  | none => exact h2
  | some a =>
    obtain ⟨vs, e1, e3⟩ := h2
    exact ⟨vs, sm _ _ e1, e3.mono sm⟩
/-- a body's reading from its def's promise -/
theorem body_of {K : PySem.W.Frag} {mg : Str → Option Value} {N : List Str} {k : Nat} {f : En → Sto → RS} {vs : List V} {H : Hp} {Q : VK} {E : XK} (h : spD K mg k (runF N.length f) vs H Q E) :
    LS ⟨K, mg, fun cls d _ H => E cls d H⟩ f { nx := fun _ H' => Q .non H', rt := Q } (L2.start N vs) H := by
  obtain ⟨m, xs, st, hl, rel, rx, h⟩ := h
  refine ⟨m, startE N.length xs, st, rel, rep_start rx, ?_⟩
  unfold runF at h
  cases hf : f (startE N.length xs) st with
  | nx en2 st2 =>
    rw [hf] at h
    intro m' H' σ' x' l' r'
    obtain ⟨r1, x1⟩ := rel.drop l' x'
    exact h m H' .non x1 r1 (by simp only [RepV, RepD])
  | rt v st2 =>
    rw [hf] at h
    intro m' H' w x' l' r'
    cases v with
    | d y =>
      obtain ⟨r1, x1⟩ := rel.drop l' x'
      refine h m H' w x1 r1 ?_
      obtain ⟨t, ht⟩ := x'.pre
      refine RepD.mono (fun a u z => ?_) _ _ r'
      obtain ⟨z1, z2⟩ := hm_some.mp z
      exact hm_some.mpr ⟨⟨fun q => z1.1 (by rw [ht]; exact List.mem_append_left _ q), by rw [← x'.hid]; exact z1.2⟩, z2⟩
    | ref n =>
      simp only [endF] at h
      by_cases hn : n < st.length
      · rw [if_pos hn] at h
        obtain ⟨r1, x1⟩ := rel.drop l' x'
        refine h m H' w x1 r1 ?_
        obtain ⟨p, hp, hw⟩ := r'
        obtain ⟨t, ht⟩ := x'.pre
        refine ⟨p, ?_, hw⟩
        rw [ht, List.getElem?_append_left (by rw [rel.len]; exact hn)] at hp
        exact hp
      · rw [if_neg hn] at h
        exact h m' H' w x' l' r'
    | exn z => exact h.elim
  | bk _ _ => rw [hf] at h; exact h.elim
  | ct _ _ => rw [hf] at h; exact h.elim
  | exc z en2 st2 =>
    rw [hf] at h
    intro m' H' σ' cls d x' l' _ r'
    obtain ⟨r1, x1⟩ := rel.drop l' x'
    exact h m H' cls d x1 r1 (r'.drop x'.pre x'.hid)
  | stuck => rw [hf] at h; exact h
/-- a call by a def's promise -/
theorem sp_call {m : Mp} {H : Hp} {σ : L2.St} {Q : VK} {n : Nat} {f : List Vv → Sto → R Vv} {xs : List Vv} {st : Sto} {vs : List V} (rel : Rel g.K m st H) (rx : RepVs g.K m H xs vs) (hn : xs.length = n) (h : Out g m H σ (RepV g.K) Q (f xs st)) : spD g.K g.mg n f vs H Q (fun cls d H => g.W cls d σ H) := by
  refine ⟨m, xs, st, hn, rel, rx, ?_⟩
  cases hf : f xs st with
  | ok x st' => rw [hf] at h; exact h
  | exc x st' => rw [hf] at h; exact h
  | stuck => rw [hf] at h; exact h
end TW
namespace TW
open PySem PySem.Spec PyProof.Rows L2

/-! ### a def's promise where nothing is being shown (no guard stands) -/
structure FnG (Pr : Program) (w : World) (K : PySem.W.Frag) (mg : Str → Option Value) (bs : Heap) (CX : CXT) (hot : Bool) (k : Nat) (f : Addr) (fd : FuncData) (ps : List Str) (sp : Sp) : Prop where
  len : ∀ xs H Q E, sp xs H Q E → xs.length = ps.length
  go : ∀ (A : Around) (out : List Env) (s : Shared) (H : Hp) (as : Args) (us : List Value) (xs : List V) (Q : VK) (E : XK), L2H.RoomH (k + 2) A → (hot = false → A.handled = none) → A.guards = some [] → Env0 Pr w K mg bs A out s H → BindsTo s fd as (ps.zip us) → Vals xs us → sp xs H Q E → codeAny (model Pr w) A (.call (.ref f) as) (CR CX out Pr w H s Q E) s
theorem FnG.imp {Pr : Program} {w : World} {K : PySem.W.Frag} {mg : Str → Option Value} {bs : Heap} {CX : CXT} {hot : Bool} {k : Nat} {f : Addr} {fd : FuncData} {ps : List Str} {sp sq : Sp} (F : FnG Pr w K mg bs CX hot k f fd ps sp)
    (im : ∀ xs H Q E, sq xs H Q E → sp xs H Q E) : FnG Pr w K mg bs CX hot k f fd ps sq :=
  ⟨fun xs H Q E z => F.len xs H Q E (im _ _ _ _ z), fun A out s H as us xs Q E r hd gd e b v z => F.go A out s H as us xs Q E r hd gd e b v (im _ _ _ _ z)⟩
/-- a def that may run while something is handled may run in quiet, too -/
theorem FnG.cool {Pr : Program} {w : World} {K : PySem.W.Frag} {mg : Str → Option Value} {bs : Heap} {CX : CXT} {hot : Bool} {k : Nat} {f : Addr} {fd : FuncData} {ps : List Str} {sp : Sp} (F : FnG Pr w K mg bs CX hot k f fd ps sp) : FnG Pr w K mg bs CX false k f fd ps sp :=
  ⟨F.len, fun A out s H as us xs Q E r hd gd e b v z => F.go A out s H as us xs Q E r (fun _ => hd rfl) gd e b v z⟩
/-- the context of a body -/
def cxG (hot : Bool) (CX : CXT) (Pr : Program) (w : World) (K : PySem.W.Frag) (mg : Str → Option Value) (bs : Heap) (N : List Str) (ql : Str) (sc : Scope) (f : Addr) (cd : Value) (A : Around) (out : List Env) (s : Shared) (H : Hp) (E : XK) : Cx :=
  { cxOf CX Pr w K mg bs N ql sc f cd A out s H E with calm := !hot }
theorem inv_startG {hot : Bool} {CX : CXT} {Pr : Program} {w : World} {K : PySem.W.Frag} {mg : Str → Option Value} {bs : Heap} {N ps : List Str} {ql : Str} {sc : Scope} {f : Addr} {cd : Value} {A : Around} {out : List Env} {s s1 : Shared} {H : Hp} {E : XK} {us : List Value} {xs : List V}
    (S : FnScope N ps sc) (hd : hot = false → A.handled = none) (e0 : Env0 Pr w K mg bs A out s H) (hl : xs.length = ps.length) (r : Vals xs us)
    (x : InCallC s s.heap.objs.size (bindL (envOfC ql sc s.heap.objs.size f cd).kindOf (ps.zip us) fun _ => none) (cellsFrom (s.heap.objs.size + 1) sc.names []) (bindC (envOfC ql sc s.heap.objs.size f cd).kindOf (ps.zip us) fun _ => none) s1) :
    Inv (cxG hot CX Pr w K mg bs N ql sc f cd A out s H E) [] (L2.start N xs) H s1 := by
  have e1 : Env0 Pr w K mg bs { A with handled := none } out s H := ⟨e0.frames, e0.mod, e0.bs, e0.bsz, e0.funs, e0.frf, e0.hok, e0.bare⟩
  have J := inv_start (CX := CX) (P := Pr) (w := w) (K := K) (mg := mg) (base := bs) (E := E) (A := { A with handled := none }) S rfl e1 hl r x
  have ok := J.ok
  exact ⟨⟨ok.mod, ok.kind, ok.glob, ok.blt, ok.above, ok.inj, ok.has, ok.cab, (fun z => hd (by cases hot; rfl; cases z)), Around.frames_deeper e0.frames, ok.stk, ok.exf, ok.bs, ok.bsz, ok.noex, ok.exfs, ok.funs, ok.frf⟩, J.os, J.bare, J.base, J.loc, J.cell, J.free, J.freeC, J.pin, J.hok, J.len⟩
theorem fn_ofG {hot : Bool} {CX : CXT} {Pr : Program} {w : World} {K : PySem.W.Frag} {mg : Str → Option Value} {bs : Heap} {k : Nat} {f : Addr} {nm ql : Str} {prm : Arguments} {bd : List Stmt} {sc : Scope} {dV kV doc pm cdv ct oc : Value} {an od : Option Addr} {osl : Array (Option Value)} {N ps : List Str} {sp : Sp}
    (lk : K.lookup f = some ⟨oc, od, .func (PySem.W.fnOf nm ql prm bd sc dV kV doc pm an cdv ct), osl⟩) (hcd : PySem.W.codeIn K cdv ql = true) (S : FnScope N ps sc)
    (len : ∀ xs H Q E, sp xs H Q E → xs.length = ps.length)
    (hbd : ∀ (A : Around) (out : List Env) (s : Shared) (H : Hp) (xs : List V) (Q : VK) (E : XK), L2H.RoomH (k + 2) (A.deeper (envOfC ql sc s.heap.objs.size f cdv)) → (hot = false → A.handled = none) → A.guards = some [] → sp xs H Q E →
      ∃ t, PSs (cxG hot CX Pr w K mg bs N ql sc f cdv A out s H E) bd t ∧ t { nx := fun _ H2 => Q .non H2, rt := Q } (L2.start N xs) H) :
    FnG Pr w K mg bs CX hot (k + 1) f (PySem.W.fnOf nm ql prm bd sc dV kV doc pm an cdv ct) ps sp := by
  refine ⟨len, fun A out s H as us xs Q E hr hd gd e0 hb rv hsp => ?_⟩
  have hln := len _ _ _ _ hsp
  have kin : K.In s.heap := e0.mod.kin.keeps fun b o q => (e0.bs b o q).1
  have lim : s.heap.NoLimit := e0.mod.nolimit.keeps fun b o q => (e0.bs b o q).1
  refine codeAny_call_function hr.depth (kin _ _ lk) rfl S.co S.gen rfl (PySem.W.codeRec_of kin hcd) (hb _ _ _ _ ?_)
  refine wpAny_newFunctionEnv_cells S.kind (fun ⟨n, v⟩ hy => ?_) fun env henv s1 x => ?_
  · exact (S.par n (List.of_mem_zip hy).1).imp (fun q => q) fun q => ⟨q, PySem.W.cellsFrom_some _ _ _ (.inl q)⟩
  subst henv
  refine ⟨lim.keeps x.toInCall.keep, codeAny_func ?_⟩
  obtain ⟨t, hp, hq⟩ := hbd A out s H xs Q E (L2H.RoomH.deeper (k := k + 2) ⟨by have := hr.dp; omega, by have := hr.un; omega⟩ _) hd gd hsp
  have J0 := inv_startG (hot := hot) (CX := CX) (Pr := Pr) (w := w) (K := K) (mg := mg) (bs := bs) (E := E) S hd e0 hln rv x
  refine wpAny_mono (hp.run [] s1 (L2.start N xs) H _ J0 hq) (fun fl s2 hs => ?_) fun _ _ hs => hs
  cases fl with
  | ret u =>
    obtain ⟨v, _, H2, J, rv2, q⟩ := hs
    exact ⟨v, H2, J.os, J.bare, J.base, J.hok, rv2, q⟩
  | next =>
    obtain ⟨_, H2, J, q⟩ := hs
    exact ⟨.non, H2, J.os, J.bare, J.base, J.hok, rfl, q⟩
  | brk => obtain ⟨_, _, _, q⟩ := hs; exact q.elim
  | cont => obtain ⟨_, _, _, q⟩ := hs; exact q.elim

/-! ### the law's call -/
theorem law_goG {Pr : Program} {w : World} {K : PySem.W.Frag} {mg mb : Str → Option Value} {CX : CXT} {k : Nat} {fa a : Addr} {fd : FuncData} {x : Str} {sp : Sp} {s0 : Shared} {us : List Value} {ns : List Int}
    (kin : K.In s0.heap) (hns : s0.heap.Ns mainGlobals mg) (hb : s0.heap.Ns builtinsNs mb) (hbb : ∀ z : Str, z ≠ "__name__" → mb z = bootBuiltins z) (lim : s0.heap.NoLimit) (hg : s0.gens = #[])
    (ha : s0.heap.get? a = some { cls := .type "list", data := .seq us.toArray }) (hi : IntsAre us ns) (hl : ns.length ≤ sizeLine) (hr : Room (k + 2) callerA)
    (F : ∀ bs : Heap, K.In bs → bs.Ns mainGlobals mg → FnG Pr w K mg bs CX false k fa fd [x] sp) (bnd : ∀ (s : Shared) (u : Value), BindsTo s fd ⟨[u], []⟩ [(x, u)])
    (hsp : ∀ H : Hp, SqL K H a (ns.map V.int) → sp [.ref a] H (fun v _ => v = .bl true) fun _ _ _ => False)
    (hCX : ∀ H e s2, CX [] H s0 (fun _ _ _ => False) e s2 → False) :
    codeAny (model Pr w) callerA (.call (.ref fa) ⟨[.ref a], []⟩) (fun r s2 => r = .ok (.ret (.bool true)) ∧ OldK s0.heap s2.heap ∧ s2.os = s0.os ∧ AllBare s2.gens) s0 := by
  have rv := vals_ints hi
  have hln := hi.length
  -- H: nothing but the script is tracked, and it is frozen
  have core : ∀ H : Hp, (∀ b, H b = none ∨ ∃ o ys, H b = some (.frz o (.lst ys))) → SqL K H a (ns.map V.int) → HOk Pr w H s0.heap → (∀ b, H b ≠ none → b = a) → (H a ≠ none → K.lookup a = none) →
      codeAny (model Pr w) callerA (.call (.ref fa) ⟨[.ref a], []⟩) (fun r s2 => r = .ok (.ret (.bool true)) ∧ OldK s0.heap s2.heap ∧ s2.os = s0.os ∧ AllBare s2.gens) s0 := by
    intro H only sq hok only1 noK
    have free : ∀ {b : Addr}, b ≠ a → H b = none := fun {b} ne => by
      cases q : H b with
      | none => rfl
      | some _ => exact absurd (only1 b (by rw [q]; simp)) ne
    have nsB : ∀ {b : Addr} {m : Str → Option Value}, s0.heap.Ns b m → (hidT s0.heap H).Ns b m := by
      rintro b m ⟨o, es, ep, e, d, r⟩
      have ne : b ≠ a := fun z => by
        subst z
        rw [ha] at e; cases e
        exact nomatch (show Data.seq us.toArray _ = Data.dict es ep from d)
      exact ⟨o, es, ep, hidT_get e (free ne), d, r⟩
    have kB : K.In (hidT s0.heap H) := fun b o e => hidT_get (kin b o e) (by
      by_cases z : b = a
      · subst z
        cases q : H b with
        | none => rfl
        | some _ => rw [noK (by rw [q]; simp)] at e; cases e
      · exact free z)
    have md : Mod K mg (hidT s0.heap H) := ⟨kB, nsB hns, ⟨mb, nsB hb, hbb⟩, by obtain ⟨mc, h1, h2⟩ := lim; exact ⟨mc, nsB h1, h2⟩⟩
    have e0 : Env0 Pr w K mg (hidT s0.heap H) callerA [] s0 H := ⟨rfl, md, fun _ _ e => of_hidT e, Nat.le_of_eq (hidT_size _ _), trivial, fun b z => absurd (show b ∈ ([] : List Addr) from z) (by simp), hok, .of_eq hg⟩
    have run := (F _ kB (nsB hns)).go callerA [] s0 H ⟨[.ref a], []⟩ [.ref a] [.ref a] _ _ ⟨hr.dp, hr.un⟩ (fun _ => hr.hd) rfl e0 (bnd s0 (.ref a)) (.cons rfl .nil) (hsp H sq)
    refine codeAny_mono run fun r s2 hq => ?_
    match r, hq with
    | .error e, hq => exact (hCX H e s2 hq).elim
    | .ok .next, hq => exact hq.elim
    | .ok .brk, hq => exact hq.elim
    | .ok .cont, hq => exact hq.elim
    | .ok (.ret u), ⟨v, H2, os, bare, un, hok2, rr, q⟩ =>
      have q : v = .bl true := q
      subst q
      obtain rfl : u = Value.bool true := rr
      refine ⟨rfl, OldK.of_keep fun b o e => ?_, os, bare⟩
      rcases only b with z | ⟨ob, ys, z⟩
      · exact un.keep b o e z (fun y => absurd (show b ∈ ([] : List Addr) from y) (by simp)) (by simp)
      · have e1 := (hok b _ z).1
        have e2 := (hok2 b _ (un.frzs b ob _ z)).1
        rw [e] at e1; cases e1
        exact e2
  cases hk : K.lookup a with
  | some o =>
    have e := kin a o hk
    rw [ha] at e
    cases e
    exact core (fun _ => none) (fun _ => .inl rfl) (.inr ⟨_, us.toArray, _, hk, rfl, rfl, rfl, by rw [List.size_toArray, hln]; exact hl, by simpa using rv⟩) (fun _ _ z => nomatch z) (fun _ z => absurd rfl z) fun z => absurd rfl z
  | none =>
    have at_ : ∀ b, b ≠ a → upd (fun _ => none) a (.frz { cls := .type "list", data := .seq us.toArray } (.lst (ns.map V.int))) b = none := fun b ne => upd_ne ne
    refine core (upd (fun _ => none) a (.frz { cls := .type "list", data := .seq us.toArray } (.lst (ns.map V.int)))) (fun b => ?_) (.inl (.inr ⟨_, upd_same⟩)) (fun b u z => ?_) (fun b z => ?_) fun _ => hk
    · by_cases z : b = a
      · subst z; exact .inr ⟨_, _, upd_same⟩
      · exact .inl (at_ b z)
    · by_cases y : b = a
      · subst y
        rw [upd_same] at z
        cases z
        exact ⟨ha, by rw [List.length_map]; exact hl, us, _, rv, ha⟩
      · rw [at_ b y] at z; cases z
    · by_cases y : b = a
      · exact y
      · exact absurd (at_ b y) z
/-- the statement's own goal from the law's promise -/
theorem walk_G {l : PySem.W.OpenLaw} {n k : Nat} {q : Program} {loose : List Str} {XP : (Str → Option Value) → Heap → Prop} {YP : World → Heap → Prop} {d : DefRec} {K : Params → PySem.W.Frag} {CX : World → CXT} {sp : World → Sp} {x : Str}
    (hn : l.most = some n) (hn2 : n ≤ sizeLine) (hdf : d.params.defaults = []) (hr : Room (k + 2) callerA) (hY : ∀ (w : World) (h : Heap), YP w h → (K w.params).In h)
    (F : ∀ (w : World) (mg : Str → Option Value) (fa : Addr) (h : Heap), (K w.params).In h → h.Ns mainGlobals mg → mg d.name = some (.ref fa) →
      ∃ fd : FuncData, (∀ (s : Shared) (u : Value), BindsTo s fd ⟨[u], []⟩ [(x, u)]) ∧ ∀ bs : Heap, (K w.params).In bs → bs.Ns mainGlobals mg → FnG l.prog w (K w.params) mg bs (CX w) false k fa fd [x] (sp w))
    (hsp : ∀ (w : World) (H : Hp) (a : Addr) (ns : List Int), ns.length ≤ n → SqL (K w.params) H a (ns.map V.int) → sp w [.ref a] H (fun v _ => v = .bl true) fun _ _ _ => False)
    (hCX : ∀ (w : World) (H : Hp) (s : Shared) (e : Value) (s2 : Shared), CX w [] H s (fun _ _ _ => False) e s2 → False) :
    PySem.W.WalkO q loose XP YP l.row.toRowW d [] (fun f vs => PySem.call f vs) := by
  refine Att.attach_call hn hdf fun w s0 s1 mg mb fa o pm cd doc a us ns G Y _ _ _ hmg hobj hints hlen hg => ?_
  have kin := hY w _ Y
  obtain ⟨fd, bnd, hF⟩ := F w mg fa _ kin G.T.g hmg
  exact law_goG kin G.T.g G.T.b G.T.builtins G.T.nolimit hg hobj hints (Nat.le_trans hlen hn2) hr hF bnd (fun H sq => hsp w H a ns hlen sq) fun H e s2 => hCX w H s1 e s2
end TW
namespace TW
open PySem PySem.Spec PyProof.Rows L2
section
variable {Pr : Program} {w : World} {A : Around} {E : Value → Shared → Prop} {s : Shared}
theorem places_rev (n : Nat) : Builtin.Slice.slicePlaces ((n : Int) - 1) (-1) (-1) = n := by
  unfold Builtin.Slice.slicePlaces
  rw [if_neg (by decide), show (- -1 : Int) = 1 by decide, Int.ediv_one]
  split <;> omega
theorem adjust_rev (n : Nat) : Builtin.Slice.sliceAdjust none none (-1) (n : Int) = ((n : Int) - 1, -1) := by
  unfold Builtin.Slice.sliceAdjust
  simp
theorem revApplied {sl : Addr} {vs : Value} {n : Nat} {Q : Int × Int × Nat → Shared → Prop} (hs : s.heap.IsSliceOf sl .none .none vs) (ps : IsPart vs (some (-1))) (h : Q ((n : Int) - 1, -1, n) s) : wpAny (model Pr w) A (Builtin.Slice.sliceApplied (.ref sl) (pure (n : Int))) Q E s := by
  obtain ⟨os, hos, hcs, hds⟩ := id hs
  unfold Builtin.Slice.sliceApplied Builtin.Slice.sliceFields
  refine wpAny_bind (wpAny_bind (wpAny_field hos hds (x := .none) rfl (wpAny_bind (wpAny_field hos hds (x := .none) rfl (wpAny_bind (wpAny_field hos hds (x := vs) rfl (wpAny_pure ?_)))))))
  refine wpAny_bind (HT.slicePart_ ps ?_)
  show wpAny _ _ (if ((-1 : Int) == 0) = true then _ else _) _ _ s
  rw [if_neg (by decide)]
  refine wpAny_bind (HT.slicePart_ .none (wpAny_bind (HT.slicePart_ .none (wpAny_bind (wpAny_pure ?_)))))
  show wpAny _ _ (match Builtin.Slice.sliceAdjust none none (-1) (n : Int) with | (lo, hi) => pure (lo, (-1 : Int), Builtin.Slice.slicePlaces lo hi (-1))) _ _ s
  rw [adjust_rev n]
  show wpAny _ _ (pure ((n : Int) - 1, (-1 : Int), Builtin.Slice.slicePlaces ((n : Int) - 1) (-1) (-1))) _ _ s
  rw [places_rev]
  exact wpAny_pure h
theorem fm_congr {α β : Type} {f g : α → Option β} : ∀ (xs : List α), (∀ x ∈ xs, f x = g x) → xs.filterMap f = xs.filterMap g
  | [], _ => rfl
  | x :: xs, h => by
    rw [List.filterMap_cons, List.filterMap_cons, h x (by simp), fm_congr xs fun y hy => h y (List.mem_cons_of_mem _ hy)]
theorem pick_rev {α : Type} (xs : Array α) : (List.range xs.size).filterMap (fun (k : Nat) => xs[((xs.size : Int) - 1 + (k : Int) * -1).toNat]?) = xs.toList.reverse := by
  have e : (List.range xs.size).filterMap (fun (k : Nat) => xs[((xs.size : Int) - 1 + (k : Int) * -1).toNat]?) = (List.range xs.size).filterMap (fun k => xs[xs.size - 1 - k]?) := by
    refine fm_congr _ fun k hk => ?_
    have := List.mem_range.mp hk
    rw [show ((xs.size : Int) - 1 + (k : Int) * -1).toNat = xs.size - 1 - k by omega]
  rw [e]
  have := PySem.W.krv_range xs.size
  have e2 : (List.range xs.size).filterMap (fun k => xs[xs.size - 1 - k]?) = ((List.range xs.size).map fun k => xs.size - 1 - k).filterMap (xs[·]?) := by rw [List.filterMap_map]; rfl
  rw [e2, this, List.filterMap_reverse, PySem.W.krv_all]
theorem getItem_rev {t sl : Addr} {its : Array Value} {vs : Value} {Q : Value → Shared → Prop} (ht : IsTup s.heap t its) (hs : s.heap.IsSliceOf sl .none .none vs) (ps : IsPart vs (some (-1)))
    (h : Q (.ref s.heap.objs.size) { s with heap := s.heap.push { cls := .type "tuple", data := .seq its.toList.reverse.toArray } }) (hz : its.size ≤ sizeLine) : wpAny (model Pr w) A (getItem (.ref t) (.ref sl)) Q E s := by
  have hok : sizeOk (.seq its.toList.reverse.toArray) := by
    show its.toList.reverse.toArray.size ≤ sizeLine
    simpa using hz
  obtain ⟨os, hos, hcs, hds⟩ := id hs
  have hTs : s.TypeIs (.ref sl) "slice" := ⟨os, hos, hcs⟩
  unfold getItem
  try with_reducible refine wpAny_holding ?_
  first | refine wpAny_bind (wpAny_pure ?_) | skip
  refine wpAny_bind (wpAny_sequenceKey ht.typeIs (by decide) ?_)
  refine wpAny_bind (wpAny_callSpecial?_slot (name := Str.ofString "__getitem__") ht.typeIs PyProof.Rows.slot_tuple_getitem (wpAny_call_entry PyProof.Rows.slot_tuple_getitem ht.typeIs entry_tuple_getitem ?_ (args_tuple_getitem _ _)))
  show wpAny _ _ (Builtin.Tuple.tupleItemsOf (.ref t) >>= _) _ _ s
  refine wpAny_bind (PyProof.Rows.tupleItemsOf_ ht (wpAny_bind (wpAny_typeOf hTs ?_)))
  rw [if_pos (by decide)]
  refine wpAny_bind (revApplied hs ps ?_)
  show wpAny _ _ (if ((its.size : Int) - 1 == 0 && (-1 : Int) == 1 && its.size == its.size) = true then _ else _) _ _ s
  rw [if_neg (by simp), pick_rev]
  first
    | exact wpAny_bind (m := Builtin.Tuple.tupleExact _) (wpAny_newObj_type (wpAny_pure ⟨_, rfl, wpAny_pure h⟩) hok)
    | exact wpAny_bind (m := Builtin.Tuple.tupleExact _) (wpAny_newObj_type (wpAny_bind (wpAny_pure (wpAny_pure ⟨_, rfl, wpAny_pure h⟩))) hok)
    | exact wpAny_bind (wpAny_bind (m := Builtin.Tuple.tupleExact _) (wpAny_newObj_type (wpAny_pure (wpAny_pure ⟨_, rfl, wpAny_pure h⟩)) hok))
    | exact wpAny_bind (wpAny_bind (m := Builtin.Tuple.tupleExact _) (wpAny_newObj_type (wpAny_pure ⟨_, rfl, wpAny_pure h⟩) hok))
end
variable {X : Cx} {g : Gx} {a : Expr} {fa : En → Sto → R Vv}
theorem RepDs.rev {K : PySem.W.Frag} {H : Hp} : ∀ {ds : List D} {vs : List V}, RepDs K H ds vs → RepDs K H ds.reverse vs.reverse
  | [], _, h => by simp only [RepDs] at h; subst h; exact .nil
  | x :: xs, _, h => by
    obtain ⟨v, r, rfl, p, q⟩ := h.uncons
    simp only [List.reverse_cons]
    exact (RepDs.rev q).append (.cons p .nil)
theorem le_rev (hK : g.K = X.K) {k : Nat} {p1 p2 p3 pos : Pos} (ha : PE X a (LE g fa)) : PE X (.Subscript a (.Slice none none (some (.UnaryOp .USub (.Constant (.int 1) k p1) p2)) p3) pos) (LE g fun en st => (fa en st).bind fun x st => op1 revD x st) := by
  refine ⟨fun pins s σ H Q I h => ?_⟩
  obtain ⟨m, en, st, rel, re, out⟩ := h
  have h1 : LE g fa σ H (fun x H1 => ∃ t xs, x = .ref t ∧ SqT X.K H1 t xs ∧ ∀ p, H1 p = none → Q (.ref p) (upd H1 p (.tup xs.reverse))) := by
    refine ⟨m, en, st, rel, re, Out.bind out fun y st1 m1 H1 v e1 x1 l1 rx o1 => ?_⟩
    unfold op1 at o1
    split at o1
    · rename_i d hd
      obtain ⟨z, ez, q⟩ := out_give o1
      unfold revD at ez
      split at ez <;> cases ez
      obtain ⟨t, vs, rfl, k1, k2, k3⟩ := rep_tup (der_rep l1 hd rx)
      refine ⟨t, vs, rfl, hK ▸ same_tup hm_same k1, fun p hp => q.tup l1 k3.rev (by simpa using k2) hp⟩
    · exact o1.elim
  refine Subscript_ (thn (ha.run pins s σ H _ I h1) fun v s1 ⟨x, H1, I1, r1, q1⟩ => ?_)
  obtain ⟨t, xs, rfl, hx, q⟩ := q1
  cases r1
  have hst : PO X (some (.UnaryOp .USub (.Constant (.int 1) k p1) p2)) (tPart (tUn (rU fun i => .int (-i)) (tC (.int 1)))) := po_some (pe_un un_neg pe_int)
  refine wpAny_Slice (thn (po_none.run pins s1 σ H1 (fun o H2 => o = none ∧ H2 = H1) I1 ⟨rfl, rfl⟩) fun vl s2 ⟨l, H2, I2, pl, el, e2⟩ => ?_)
  subst el e2
  refine thn (po_none.run pins s2 σ H2 (fun o H3 => o = none ∧ H3 = H2) I2 ⟨rfl, rfl⟩) fun vu s3 ⟨u, H3, I3, pu, eu, e3⟩ => ?_
  subst eu e3
  refine thn (hst.run pins s3 σ H3 (fun o H4 => o = some (-1) ∧ H4 = H3) I3 ⟨1, rfl, -1, rfl, rfl, rfl⟩) fun vs s4 ⟨o, H4, I4, ps, eo, e4⟩ => ?_
  subst eo e4
  cases pl
  cases pu
  have I5 : Inv X pins σ H4 { s4 with heap := s4.heap.push { cls := .type "slice", data := .fields #[.none, .none, vs] } } := I4.kept (t' := s4.toks) fun b ob q => Heap.get?_push_of_some _ q
  obtain ⟨its, r, ht, hz⟩ := I5.tuple hx
  have hlen := r.length
  show wpAny (model X.prog X.w) X.A (subscriptTail a (.Slice none none (some (.UnaryOp .USub (.Constant (.int 1) k p1) p2)) p3) (.ref t) (.ref s4.heap.objs.size)) (EP X pins σ Q) X.xe { s4 with heap := s4.heap.push { cls := .type "slice", data := .fields #[.none, .none, vs] } }
  refine tail_any (ops := [.ref t, .ref s4.heap.objs.size]) ht.typeIs (PyProof.Rows.slot_tuple_getitem.lookup) ?_ (by with_unfolding_all rfl)
  refine getItem_rev ht (Heap.IsSliceOf.new _ .none .none vs) ps ?_ (by rw [List.size_toArray]; omega)
  refine ⟨.ref _, _, I5.laid (t' := s4.toks) (o := .tup xs.reverse) (fun b ob q => Heap.get?_push_of_some _ q) (Nat.le_refl _) ?_, rfl, q _ (I5.hok.fresh (Nat.le_refl _))⟩
  exact ⟨by rw [List.length_reverse]; exact hz, _, r.reverse, ⟨_, Heap.get?_push_size _ rfl, rfl, _, rfl⟩⟩
end TW
namespace TW
open PySem PySem.Spec PyProof.Rows L2
/-! ### enumerate over a tuple -/
def ItE (K : PySem.W.Frag) (q : Addr) : L2.It where
  go i H := ∃ vs v, SqT K H q vs ∧ vs[i]? = some v
  yld i H y H' := ∃ T v, y = .ref T ∧ H T = none ∧ H' = upd H T (.tup [.int (i : Nat), v]) ∧ ∀ vs, SqT K H q vs → vs[i]? = some v
  stop i H := ∃ vs, SqT K H q vs ∧ vs.length = i
theorem turnE {P : Program} {w : World} {K : PySem.W.Frag} {el : List Expr} {kk : Nat} {tp : Pos} (q en it : Addr) :
    Turn P w K (.Tuple el kk tp) (ItE K q) [en, it] en (fun i h => (∃ old, IsEnum h en it ((i : Nat) : Int) old) ∧ h.IsTupleIter it q i ∧ en ≠ it ∧ q ≠ it ∧ en ≠ q) where
  mem := by simp
  obj := fun i h st b hb => by
    obtain ⟨⟨old, he⟩, ⟨o, ho, hc, hd⟩, _⟩ := st
    rcases (show b = en ∨ b = it by simpa using hb) with rfl | rfl
    · exact ⟨_, he, fun v z => nomatch z⟩
    · exact ⟨o, ho, fun v z => by rw [hd] at z; cases z⟩
  keep := fun i h h' st k => let ⟨⟨old, he⟩, hi, r⟩ := st; ⟨⟨old, k en (by simp) _ he⟩, hi.at fun o z => k it (by simp) o z, r⟩
  item := by
    intro X hP hw hK hc i pins s σ H E I hf st hg
    subst hP hw hK
    obtain ⟨⟨old, he⟩, hit, hne, hqi, heq⟩ := st
    obtain ⟨vs, v, hq, hv⟩ := hg
    obtain ⟨its, rv, tp, hz⟩ := I.tuple hq
    obtain ⟨u, hu, ru⟩ := rv.get hv
    have n1 : en < s.heap.objs.size := Heap.lt_size he
    have n2 : it < s.heap.objs.size := by obtain ⟨_, z, _⟩ := hit; exact Heap.lt_size z
    have hh : X.A.in1.handled = none := I.ok.hd hc
    have hlt : i < its.toArray.size := by
      have := (List.getElem?_eq_some_iff.mp hu).1
      simpa using this
    refine wpAny_pyNext_enum_itemD (Draws.tuple hh it q hqi its.toArray) he ⟨hit, tp⟩ hlt hne (by simp [hne, heq]) fun x h' tk hx ho hst hT hsz hk => ?_
    have hx' : u = x := by
      rw [List.getElem?_toArray, hu] at hx
      exact Option.some.inj hx
    subst hx'
    refine ⟨_, rfl, wpAny_letOwnedTupleGo_enum (s := { s with heap := h', toks := tk + 1 }) ho fun h2 he2 sb => ?_⟩
    have hT2 := (sb.2 _ (Nat.ne_of_gt n1)).trans hT
    have new : ObjOk X.prog X.w (upd H s.heap.objs.size (.tup [.int (i : Nat), v])) h2 s.heap.objs.size (.tup [.int (i : Nat), v]) :=
      ⟨by show 2 ≤ sizeLine; decide, [.int i tk, u], .cons ⟨_, rfl⟩ (.cons ru .nil), ⟨_, hT2, rfl, _, rfl⟩⟩
    have I1 := I.turnedNew (t' := tk + 1) (ch := [en, it]) (h' := h2) (fun b ob hb z => (sb.2 b (fun y => hb (by simp [y]))).trans (hk b ob (fun y => hb (by simp [y])) (fun y => hb (by simp [y])) z)) hf (Nat.le_refl _) new
    refine ⟨.ref s.heap.objs.size, _, I1, rfl, ⟨_, v, rfl, I.hok.fresh (Nat.le_refl _), rfl, fun ys hy => by rw [I.tuple_inj hy hq]; exact hv⟩, ⟨⟨u, ?_⟩, hst.1.at fun o z => (sb.2 it (Ne.symm hne)).trans z, hne, hqi, heq⟩, fun b hb => ?_⟩
    · rw [show ((i + 1 : Nat) : Int) = (i : Int) + 1 by omega]; exact he2
    · have hb' : b < s.heap.objs.size := by
        rcases (show b = en ∨ b = it by simpa using hb) with rfl | rfl
        · exact n1
        · exact n2
      rw [upd_ne (Nat.ne_of_lt hb')]
      exact (hf b hb).1
  done := by
    intro X hP hw hK hc i pins s σ H E I hf st hg
    subst hP hw hK
    obtain ⟨⟨old, he⟩, hit, hne, hqi, heq⟩ := st
    obtain ⟨vs, hq, hv⟩ := hg
    obtain ⟨its, rv, tp, hz⟩ := I.tuple hq
    obtain ⟨f0, f1, f2, f3, f4, f5⟩ := hf it (by simp)
    have hh : X.A.in1.handled = none := I.ok.hd hc
    have hl : its.toArray.size = i := by rw [List.size_toArray, ← rv.length]; exact hv
    subst hl
    exact wpAny_pyNext_enum_endD (Draws.tuple hh it q hqi its.toArray) he ⟨hit, tp⟩ fun h' eb => ⟨rfl, I.turned (t' := s.toks) (fun b o hb z => eb b o hb z) f0 f1 f3 f4 f5⟩
  self := fun A i s Q E st h => let ⟨⟨_, he⟩, _⟩ := st; wpAny_pyIter_enum he h
/-- enumerate(v) of whatever begins -/
theorem enum1_meets {v : Value} {ob : Obj} {HH : Heap → Prop} (BB : Begins v ob HH) :
    Meets (Builtin.«enumerate.__new__» ⟨[.type "enumerate", v], []⟩) (fun _ RR ss => HH ss.heap ∧
      RR (.ok (.ret (.ref (ss.heap.push ob).objs.size))) { ss with heap := (ss.heap.push ob).push { cls := .type "enumerate", data := .fields #[.none, .bool false, .ref ss.heap.objs.size, rawInt 0, .none, .none] } }) :=
  .of_wp fun pr ww AA RR ss hy => by
    obtain ⟨hp, g, d, tk, os⟩ := ss
    obtain ⟨hy1, hy2⟩ := hy
    have sb := sub_enumerate
    have go : ∀ {A' : Around} {E : Value → Shared → Prop} {Q : Value → Shared → Prop}, Q (.ref hp.objs.size) ⟨hp.push ob, g, d, tk, os⟩ → wpAny (model pr ww) A' (pyIter v) Q E ⟨hp, g, d, tk, os⟩ :=
      fun z => BB.iter pr ww _ _ ⟨hp, g, d, tk, os⟩ _ hy1 z
    wp_walk using go
    refine wpAny_stack_any fun sk => wpAny_pure ?_
    split
    · rename_i cc _ _ _ _ _
      cases (cc == Value.type "enumerate") <;> (wp_walk using go; exact ⟨_, rfl, hy2⟩)
    · wp_walk using go; exact ⟨_, rfl, hy2⟩
theorem enum1_begins {prog : Program} {w : World} {A : Around} {E : Value → Shared → Prop} {s : Shared} {v : Value} {ob : Obj} {HH : Heap → Prop} {Q : Value → Shared → Prop} (BB : Begins v ob HH) (h1 : HH s.heap)
    (k : ∀ h', IsEnum h' (s.heap.objs.size + 1) s.heap.objs.size 0 .none → h'.get? s.heap.objs.size = some ob → (∀ b o, s.heap.get? b = some o → h'.get? b = some o) → Q (.ref (s.heap.objs.size + 1)) { s with heap := h' }) :
    wpAny (model prog w) A (call (.type "enumerate") [v]) Q E s := by
  refine callType_new PySem.F.called_enumerate (by decide) (PySem.F.typeCall_enumerate_1 _) (PySem.F.newCall_enumerate_1 _) (fun z => PySem.F.args_object_init_2 z _) PySem.F.entry_enumerate_new (enum1_meets BB) ⟨h1, ?_⟩
  have sz : (s.heap.push ob).objs.size = s.heap.objs.size + 1 := Heap.size_push ..
  show _ ∧ _
  rw [sz]
  have en : IsEnum ((s.heap.push ob).push { cls := .type "enumerate", data := .fields #[.none, .bool false, .ref s.heap.objs.size, rawInt 0, .none, .none] }) (s.heap.objs.size + 1) s.heap.objs.size 0 .none := by
    have z := Heap.get?_push_size (s.heap.push ob) (o := { cls := .type "enumerate", data := .fields #[.none, .bool false, .ref s.heap.objs.size, rawInt 0, .none, .none] }) rfl
    rw [sz] at z
    exact z
  exact ⟨⟨_, en, rfl⟩, k _ en (Heap.get?_push_of_some _ (Heap.get?_push_size _ BB.free)) fun b o x => Heap.get?_push_of_some _ (Heap.get?_push_of_some _ x)⟩
def iE (K : PySem.W.Frag) (ta : TA) : TI := fun σ H R => ta σ H fun vs H1 => ∃ q xs, vs = [.ref q] ∧ SqT K H1 q xs ∧ R (ItE K q) H1
theorem pi_enumT {X : Cx} {e : Expr} {ta : TA} {p pos tp : Pos} {el : List Expr} {kk : Nat} (hg : Gl X "enumerate") (hm : X.mg "enumerate" = none) (ha : PA X [e] ta) (hs : starEach [e] X.env = [(false, eval e X.env)]) :
    PI X (.Tuple el kk tp) (.Call (.Name "enumerate" p) [e] [] pos) (iE X.K ta) := by
  refine ⟨fun pins s σ H R I h => ?_⟩
  refine Call_ (ld_blt I hg hm boot_enumerate (callWith_type1 (thn (ha.run pos pins s σ H _ I h) fun us s1 ⟨vs, H1, I1, r1, q1⟩ => ?_) hs rfl))
  obtain ⟨q, xs, rfl, hq, q1⟩ := q1
  obtain ⟨u, rfl, ru⟩ := vals1 r1
  cases ru
  obtain ⟨its, rv, tu, hz⟩ := I1.tuple hq
  have ql : q < s1.heap.objs.size := tu.lt
  refine enum1_begins (begins_tuple q its.toArray) tu fun h' hen hit hk => wpAny_pyIter_enum hen ?_
  have I2 := I1.kept (h' := h') (t' := s1.toks) hk
  refine ⟨s1.heap.objs.size + 1, [s1.heap.objs.size + 1, s1.heap.objs.size], _, _, H1, rfl, I2, turnE q (s1.heap.objs.size + 1) s1.heap.objs.size, ⟨⟨.none, hen⟩, ⟨_, hit, rfl, rfl⟩, Nat.succ_ne_self _, Nat.ne_of_lt ql, Ne.symm (Nat.ne_of_lt (Nat.lt_succ_of_lt ql))⟩, fun b hb => ?_, q1⟩
  have hle : s1.heap.objs.size ≤ b := by
    rcases (show b = s1.heap.objs.size + 1 ∨ b = s1.heap.objs.size by simpa using hb) with z | z
    · rw [z]; exact Nat.le_add_right _ _
    · rw [z]; exact Nat.le_refl _
  exact I1.fpOk hle (I1.hok.fresh hle)
theorem pair_rep {K : PySem.W.Frag} {m : Mp} {H : Hp} {st : Sto} {a b : D} {v w : V} {T : Addr} (rel : Rel K m st H) (ha : RepD K (hm m H) a v) (hb : RepD K (hm m H) b w) (n : H T = none) :
    Ext m H m (upd H T (.tup [v, w])) ∧ Rel K m st (upd H T (.tup [v, w])) ∧ RepD K (hm m (upd H T (.tup [v, w]))) (.tup [a, b]) (.ref T) := by
  refine ⟨rel.ext_fresh n, rel.fresh n, ?_⟩
  simp only [RepD]
  exact ⟨T, [v, w], rfl, .inl (.inl (hm_some.mpr ⟨rel.fresh_ne n, upd_same⟩)), by simp [sizeLine_eq], .cons (RepD.mono (hm_upd n) _ _ ha) (.cons (RepD.mono (hm_upd n) _ _ hb) .nil), fun _ => hm_some.mpr ⟨rel.fresh_ne n, upd_same⟩⟩
theorem wk_enumT {K : PySem.W.Frag} {m0 : Mp} {H0 : Hp} {p : Addr} {ds : List D} {vs : List V} (h : SqT K (hm m0 H0) p vs) (r : RepDs K (hm m0 H0) ds vs) : Wk K m0 H0 ⟨enumD 0 ds, []⟩ (ItE K p) where
  stop m H st _ x _ _ := ⟨vs, same_tup hm_same (same_tup x h), by rw [enumD_len]; exact r.length.symm⟩
  go m H st _ x _ _ i d hd := by
    obtain ⟨y, e1, _⟩ := enumD_get 0 ds i d hd
    obtain ⟨v, e, _⟩ := r.get e1
    exact ⟨vs, v, same_tup hm_same (same_tup x h), e⟩
  yld m H st _ x rel _ i d y H' hd hy := by
    obtain ⟨z, e1, rfl⟩ := enumD_get 0 ds i d hd
    obtain ⟨T, v, rfl, n, rfl, hv⟩ := hy
    obtain ⟨v', e, rv⟩ := r.get e1
    have := hv vs (same_tup hm_same (same_tup x h))
    rw [e] at this
    cases this
    refine pair_rep rel ?_ (RepD.mono x _ _ rv) n
    simp only [RepD, Nat.zero_add]
theorem wk_enumL {K : PySem.W.Frag} {m0 : Mp} {H0 : Hp} {p : Addr} {ds : List D} {vs : List V} (h : SqL K (hm m0 H0) p vs) (r : RepDs K (hm m0 H0) ds vs) : Wk K m0 H0 ⟨enumD 0 ds, []⟩ (Ite K p) where
  stop m H st _ x _ _ := ⟨vs, hm_same.seq (x.seq h), by rw [enumD_len]; exact Nat.le_of_eq r.length.symm⟩
  go m H st _ x _ _ i d hd := by
    obtain ⟨y, e1, _⟩ := enumD_get 0 ds i d hd
    obtain ⟨v, e, _⟩ := r.get e1
    exact ⟨vs, v, hm_same.seq (x.seq h), e⟩
  yld m H st _ x rel _ i d y H' hd hy := by
    obtain ⟨z, e1, rfl⟩ := enumD_get 0 ds i d hd
    obtain ⟨T, v, rfl, n, rfl, hv⟩ := hy
    obtain ⟨v', e, rv⟩ := r.get e1
    have := hv vs (hm_same.seq (x.seq h))
    rw [e] at this
    cases this
    refine pair_rep rel ?_ (RepD.mono x _ _ rv) n
    simp only [RepD, Nat.zero_add]
theorem wk_enumP {K : PySem.W.Frag} {m0 : Mp} {H0 : Hp} {p : Addr} {ds : List D} {n : Nat} (hp : m0.ad[n]? = some p) : Wk K m0 H0 ⟨enumD 0 ds, [(n, ds)]⟩ (Ite K p) where
  stop m H st t x rel k := by
    obtain ⟨vs, h1, h2⟩ := pin_rep hp t.1 rel k
    exact ⟨vs, sql_of h1, by rw [enumD_len]; exact Nat.le_of_eq h2.length.symm⟩
  go m H st t x rel k i d hd := by
    obtain ⟨vs, h1, h2⟩ := pin_rep hp t.1 rel k
    obtain ⟨y, e1, _⟩ := enumD_get 0 ds i d hd
    obtain ⟨v, e, _⟩ := h2.get e1
    exact ⟨vs, v, sql_of h1, e⟩
  yld m H st t x rel k i d y H' hd hy := by
    obtain ⟨vs, h1, h2⟩ := pin_rep hp t.1 rel k
    obtain ⟨z, e1, rfl⟩ := enumD_get 0 ds i d hd
    obtain ⟨T, v, rfl, n, rfl, hv⟩ := hy
    obtain ⟨v', e, rv⟩ := h2.get e1
    have := hv vs (sql_of h1)
    rw [e] at this
    cases this
    refine pair_rep rel ?_ rv n
    simp only [RepD, Nat.zero_add]
variable {X : Cx} {g : Gx} {a : Expr} {pos : Pos} {fa : En → Sto → R Vv}
theorem li_enum (hK : g.K = X.K) {p tp : Pos} {el : List Expr} {kk : Nat} (hg : Gl X "enumerate") (hm : X.mg "enumerate" = none) (ha : PA X [a] (LA g fun en st => (fa en st).bind fun x st => .ok [x] st)) (hs : noStar a = true) :
    PI X (.Tuple el kk tp) (.Call (.Name "enumerate" p) [a] [] pos) (LI g fun en st => (fa en st).bind kEn) := by
  refine ⟨fun pins s σ H R I h => ?_⟩
  have pl := (pi_enum (elts := el) (kk := kk) (tpos := tp) (p := p) (pos := pos) hg hm ha (star_cons hs X.env)).run pins s σ H R I
  have pt := (pi_enumT (el := el) (kk := kk) (tp := tp) (p := p) (pos := pos) hg hm ha (star_cons hs X.env)).run pins s σ H R I
  obtain ⟨m, en, st, rel, re, out⟩ := h
  dsimp only at out
  cases hf : fa en st with
  | stuck => rw [hf] at out; exact out.elim
  | exc x st1 =>
    refine pl ⟨m, en, st, rel, re, ?_⟩
    rw [hf] at out
    dsimp only
    rw [hf]
    exact out
  | ok x st1 =>
    rw [hf, bind_ok] at out
    unfold kEn at out
    split at out
    · refine pl ⟨m, en, st, rel, re, ?_⟩
      dsimp only
      rw [hf]
      intro m' H' v x' l' r'
      obtain ⟨w, rfl, rw'⟩ := p1 r'
      simp only [RepV, RepD] at rw'
      obtain ⟨p', vs, rfl, q1, _, q2⟩ := rw'
      rw [← hK]
      exact ⟨p', vs, rfl, hm_same.seq q1, out m' H' _ x' l' (wk_enumL q1 q2)⟩
    · refine pt ⟨m, en, st, rel, re, ?_⟩
      dsimp only
      rw [hf]
      intro m' H' v x' l' r'
      obtain ⟨w, rfl, rw'⟩ := p1 r'
      simp only [RepV, RepD] at rw'
      obtain ⟨p', vs, rfl, q1, _, q2, _⟩ := rw'
      rw [← hK]
      exact ⟨p', vs, rfl, same_tup hm_same q1, out m' H' _ x' l' (wk_enumT q1 q2)⟩
    · rename_i n
      split at out
      · rename_i xs hx
        refine pl ⟨m, en, st, rel, re, ?_⟩
        dsimp only
        rw [hf]
        intro m' H' v x' l' r'
        obtain ⟨w, rfl, rw'⟩ := p1 r'
        obtain ⟨p', q1, rfl⟩ := rw'
        obtain ⟨u, h1, h2⟩ := l'.get n _ p' hx q1
        obtain ⟨vs, rfl, h3, _⟩ := h2
        rw [← hK]
        exact ⟨p', vs, rfl, sql_of h1, out m' H' _ x' l' (wk_enumP q1)⟩
      · exact out.elim
    · exact out.elim
/-! ### while -/
theorem ls_while {c : Expr} {body : List Stmt} {fc : En → Sto → R Vv} {fb : En → Sto → RS} (n : Nat) (hp : PassesOwn (model X.prog X.w) X.A X.env X.xe) (hc : PT X c (LT g (tt fc))) (hb : PSs X body (LS g fb)) :
    PS X (.While c body [] pos) (LS g fun en st => whLoop (fun en st => (fc en st).bind truV) fb n en st) := by
  refine ps_weak (ps_while hp hc hb) ?_
  rintro E σ H ⟨m, en, st, rel, re, out⟩
  refine ⟨fun k σk Hk => ∃ mk ek sk, Ext m H mk Hk ∧ Rel g.K mk sk Hk ∧ RepE g.K mk Hk ek σk ∧ OutS g m H E (whLoop (fun en st => (fc en st).bind truV) fb k ek sk), ⟨n, m, en, st, .refl, rel, re, out⟩, ?_⟩
  rintro k σk Hk ⟨mk, ek, sk, xk, lk, rk, ok⟩
  cases k with
  | zero => exact ok.elim
  | succ k =>
    simp only [whLoop] at ok
    refine ⟨mk, ek, sk, lk, rk, OutS.go (OutS.ext xk ok) rk fun b st1 m1 H1 v e1 x1 l1 rb o1 => ?_⟩
    subst rb
    have xx := xk.trans x1
    cases b with
    | false => exact o1 m1 H1 σk .refl l1 (rk.ext x1)
    | true =>
      have e1' : (fc ek sk).bind truV = .ok true st1 := e1
      rw [e1'] at ok
      have ok2 : OutS g m H E ((fb ek st1).turn fun en st => whLoop (fun en st => (fc en st).bind truV) fb k en st) := ok
      refine ⟨fun σ' H' => ∃ mk ek sk, Ext m H mk H' ∧ Rel g.K mk sk H' ∧ RepE g.K mk H' ek σ' ∧ OutS g m H E (whLoop (fun en st => (fc en st).bind truV) fb k ek sk), fun σ' H' hh => ⟨k, Nat.lt_succ_self k, hh⟩, m1, ek, st1, l1, rk.ext x1, ?_⟩
      cases hf : fb ek st1 with
      | nx en3 st3 => rw [hf] at ok2; exact fun m' H' σ' x' l' r' => ⟨m', en3, st3, xx.trans x', l', r', ok2⟩
      | ct en3 st3 => rw [hf] at ok2; exact fun m' H' σ' x' l' r' => ⟨m', en3, st3, xx.trans x', l', r', ok2⟩
      | bk en3 st3 => rw [hf] at ok2; exact fun m' H' σ' x' l' r' => ok2 m' H' σ' (xx.trans x') l' r'
      | rt v st3 => rw [hf] at ok2; exact fun m' H' w x' l' r' => ok2 m' H' w (xx.trans x') l' r'
      | exc z en3 st3 => rw [hf] at ok2; exact fun m' H' σ' c d x' l' r' => ok2 m' H' σ' c d (xx.trans x') l' r'
      | stuck => rw [hf] at ok2; exact ok2
/-! ### a, b = x, y -/
theorem ls_par2 {s : Stmt} {i j : Nat} {fr : En → Sto → R (List Vv)} (hl : ∀ en st xs st', fr en st = .ok xs st' → xs.length = 2) (h : PS X s (tPar i j (LA g fr))) : PS X s (LS g fun en st => (fr en st).go en fun vs st => match setAll [i, j] vs en with | some en => .nx en st | none => .stuck) := by
  refine ps_weak h ?_
  rintro E σ H ⟨m, en, st, rel, re, out⟩
  refine ⟨m, en, st, rel, re, OutS.go out re fun xs st1 m1 H1 vs e1 x1 l1 rx o1 => ?_⟩
  have := hl _ _ _ _ e1
  match xs, this, rx, o1 with
  | [a, b], _, rx, o1 =>
    obtain ⟨v, w, rfl, rv, rw'⟩ := p2 rx
    exact ⟨v, w, rfl, o1 m1 H1 _ .refl l1 (((re.ext x1).set rv i).set rw' j)⟩
theorem ls_par3 {s : Stmt} {i j l : Nat} {fr : En → Sto → R (List Vv)} (hl : ∀ en st xs st', fr en st = .ok xs st' → xs.length = 3) (h : PS X s (tPar3 i j l (LA g fr))) : PS X s (LS g fun en st => (fr en st).go en fun vs st => match setAll [i, j, l] vs en with | some en => .nx en st | none => .stuck) := by
  refine ps_weak h ?_
  rintro E σ H ⟨m, en, st, rel, re, out⟩
  refine ⟨m, en, st, rel, re, OutS.go out re fun xs st1 m1 H1 vs e1 x1 l1 rx o1 => ?_⟩
  have := hl _ _ _ _ e1
  match xs, this, rx, o1 with
  | [a, b, c], _, .cons rv (.cons rw' (.cons ru .nil)), o1 =>
    exact ⟨_, _, _, rfl, o1 m1 H1 _ .refl l1 ((((re.ext x1).set rv i).set rw' j).set ru l)⟩
def isNm : Expr → Bool
  | .Name _ _ => true
  | _ => false
theorem fm_lt {α β : Type} {f : α → Option β} {x : α} (hx : f x = none) : ∀ {l : List α}, x ∈ l → (l.filterMap f).length < l.length
  | [], h => by cases h
  | y :: l, h => by
    have le := List.length_filterMap_le f l
    rcases List.mem_cons.mp h with rfl | h
    · rw [List.filterMap_cons, hx]
      exact Nat.lt_succ_of_le le
    · have := fm_lt hx h
      rw [List.filterMap_cons]
      split <;> simp only [List.length_cons] <;> omega
/-- where no stores are exchanged -/
def swNone : Expr → Expr → Bool
  | .Tuple ts _ _, .Tuple vs _ _ => !(ts.length == 2 || ts.length == 3) || vs.length != ts.length || !ts.all isNm
  | .List _ _, _ => false
  | _, .Tuple _ _ _ => true
  | _, _ => true
theorem swNone_ok {tg e : Expr} (h : swNone tg e = true) (env : Env) : swappedStores [tg] e env = pure none := by
  by_cases ht : ∃ ts k p, tg = .Tuple ts k p
  · obtain ⟨ts, k, p, rfl⟩ := ht
    by_cases hv : ∃ vs k p, e = .Tuple vs k p
    · obtain ⟨vs, k', p', rfl⟩ := hv
      simp only [swNone, Bool.or_eq_true] at h
      unfold swappedStores
      simp only
      rcases h with h | h
      · have : (!(ts.length == 2 || ts.length == 3) || vs.length != ts.length || env.blockKind != .function) = true := by
          rw [Bool.or_eq_true, Bool.or_eq_true]
          exact .inl h
        rw [if_pos this]
      · obtain ⟨t, ht, hn⟩ : ∃ t ∈ ts, isNm t = false := by simpa using h
        split
        · rfl
        · split
          · rfl
          · have lt : ∀ f : Expr → Option Str, f t = none → (ts.filterMap f).length < ts.length := fun f hf => fm_lt hf ht
            rw [if_pos]
            rw [Bool.or_eq_true]
            left
            refine bne_iff_ne.mpr (Nat.ne_of_lt (lt _ ?_))
            cases t <;> first | rfl | cases hn
    · cases e <;> first | rfl | exact absurd ⟨_, _, _, rfl⟩ hv
  · cases tg <;> first | exact absurd ⟨_, _, _, rfl⟩ ht | (cases h; done) | (cases e <;> rfl)
theorem sw2_ok {x y : Str} {px py : Pos} {kt k2 : Nat} {pt pt2 : Pos} {a b : Expr} {env : Env} (hk : env.scope.kind = .function) (hx : env.scope.names.lookup x = some .local) (hy : env.scope.names.lookup y = some .local) (hl : (py.line == px.line) = true) (hne : x ≠ y)
    (ha : noStar a = true) (hb : noStar b = true) (hf : [a, b].all (foldedForSure 8) = false) (hc : [a, b].all (constantsAlone 8) = false) :
    swappedStores [.Tuple [.Name x px, .Name y py] kt pt] (.Tuple [a, b] k2 pt2) env = pure (some [x, y]) := by
  have bk : env.blockKind = .function := by unfold Env.blockKind; rw [hk]; rfl
  have kx : env.kindOf x = some .local := hx
  have ky : env.kindOf y = some .local := hy
  have st : ([a, b].any fun | .Starred .. => true | _ => false) = false := by
    cases a <;> cases b <;> first | rfl | (cases ha; done) | (cases hb; done)
  have hd : ([x, y] : List Str).eraseDups.length = 2 := by
    have : (y == x) = false := by simpa using Ne.symm hne
    simp [List.eraseDups_cons, this]
  unfold swappedStores
  simp only [List.length_cons, List.length_nil, bk, List.head?_cons, Option.map_some, Option.getD_some, Expr.pos, List.filterMap_cons, List.filterMap_nil, kx, ky, hl]
  rw [if_neg (by decide)]
  refine Eq.trans (if_neg (fun h => Bool.false_ne_true (st.symm.trans h))) ?_
  simp only [beq_self_eq_true, Bool.and_self, if_true, hd, List.length_cons, List.length_nil]
  rw [if_neg (by decide), if_neg (by rw [hf]; decide), if_neg (by rw [hc]; decide)]
theorem sw3_ok {x y z : Str} {px py pz : Pos} {kt k2 : Nat} {pt pt2 : Pos} {a b c : Expr} {env : Env} (hk : env.scope.kind = .function) (hx : env.scope.names.lookup x = some .local) (hy : env.scope.names.lookup y = some .local) (hz : env.scope.names.lookup z = some .local) (hl : (py.line == px.line) = true) (hl2 : (pz.line == px.line) = true) (hxy : x ≠ y) (hxz : x ≠ z) (hyz : y ≠ z)
    (ha : noStar a = true) (hb : noStar b = true) (hcs : noStar c = true) (hf : [a, b, c].all (foldedForSure 8) = false) (hc : [a, b, c].all (constantsAlone 8) = false) :
    swappedStores [.Tuple [.Name x px, .Name y py, .Name z pz] kt pt] (.Tuple [a, b, c] k2 pt2) env = pure (some [x, y, z]) := by
  have bk : env.blockKind = .function := by unfold Env.blockKind; rw [hk]; rfl
  have kx : env.kindOf x = some .local := hx
  have ky : env.kindOf y = some .local := hy
  have kz : env.kindOf z = some .local := hz
  have ns : ∀ {e : Expr}, noStar e = true → (match e with | .Starred .. => true | _ => false) = false := by
    intro e h
    cases e <;> first | rfl | cases h
  have st : ([a, b, c].any fun | .Starred .. => true | _ => false) = false := by
    simp only [List.any_cons, List.any_nil, Bool.or_false]
    rw [ns ha, ns hb, ns hcs]
    rfl
  have hd : ([x, y, z] : List Str).eraseDups.length = 3 := by
    have h1 : (y == x) = false := by simpa using Ne.symm hxy
    have h2 : (z == x) = false := by simpa using Ne.symm hxz
    have h3 : (z == y) = false := by simpa using Ne.symm hyz
    simp [List.eraseDups_cons, h1, h2, h3]
  unfold swappedStores
  simp only [List.length_cons, List.length_nil, bk, List.head?_cons, Option.map_some, Option.getD_some, Expr.pos, List.filterMap_cons, List.filterMap_nil, kx, ky, kz, hl, hl2]
  rw [if_neg (by decide)]
  refine Eq.trans (if_neg (fun h => Bool.false_ne_true (st.symm.trans h))) ?_
  simp only [beq_self_eq_true, Bool.and_self, if_true, hd, List.length_cons, List.length_nil]
  rw [if_neg (by decide), if_neg (by rw [hf]; decide), if_neg (by rw [hc]; decide)]
end TW
namespace TW
open PySem PySem.Spec PyProof.Rows L2
/-! ### dict displays -/
variable {X : Cx} {g : Gx} {pos : Pos}
def prs : List ((En → Sto → R Vv) × (En → Sto → R Vv)) → En → Sto → R (List Vv)
  | [], _, st => .ok [] st
  | (fk, fv) :: r, en, st => (fk en st).bind fun x st => (fv en st).bind fun y st => (prs r en st).bind fun xs st => .ok (x :: y :: xs) st
def pairUp : List V → List (V × V)
  | x :: y :: r => (x, y) :: pairUp r
  | _ => []
theorem prs_read {en : En} {σ : L2.St} : ∀ {fs : List ((En → Sto → R Vv) × (En → Sto → R Vv))} {m1 : Mp} {H1 : Hp} {st1 st2 : Sto} {vs : List Vv} {Q : List (V × V) → Hp → Prop}, prs fs en st1 = .ok vs st2 → Rel g.K m1 st1 H1 → RepE g.K m1 H1 en σ →
    (∀ m2 H2 ws, Ext m1 H1 m2 H2 → Rel g.K m2 st2 H2 → RepVs g.K m2 H2 vs ws → Q (pairUp ws) H2) → tPairs (fs.map fun f => (LE g f.1, LE g f.2)) σ H1 Q
  | [], m1, H1, st1, st2, vs, Q, e, rel, re, k => by
    simp only [prs, R.ok.injEq] at e
    obtain ⟨rfl, rfl⟩ := e
    exact k m1 H1 [] .refl rel .nil
  | (fk, fv) :: r, m1, H1, st1, st2, vs, Q, e, rel, re, k => by
    simp only [prs] at e
    cases hk : fk en st1 with
    | exc _ _ => rw [hk] at e; cases e
    | stuck => rw [hk] at e; cases e
    | ok x s1 =>
      rw [hk, bind_ok] at e
      cases hv : fv en s1 with
      | exc _ _ => rw [hv] at e; cases e
      | stuck => rw [hv] at e; cases e
      | ok y s2 =>
        rw [hv, bind_ok] at e
        cases hr : prs r en s2 with
        | exc _ _ => rw [hr] at e; cases e
        | stuck => rw [hr] at e; cases e
        | ok xs s3 =>
          rw [hr, bind_ok] at e
          cases e
          refine ⟨m1, en, st1, rel, re, ?_⟩
          show Out _ _ _ _ _ _ (fk en st1)
          rw [hk]
          intro m2 H2 v x2 l2 rx
          refine ⟨m2, en, s1, l2, re.ext x2, ?_⟩
          show Out _ _ _ _ _ _ (fv en s1)
          rw [hv]
          intro m3 H3 w x3 l3 ry
          refine prs_read hr l3 ((re.ext x2).ext x3) fun m4 H4 ws x4 l4 rs => ?_
          exact k m4 H4 (v :: w :: ws) ((x2.trans x3).trans x4) l4 (.cons ((rx.ext x3).ext x4) (.cons (ry.ext x4) rs))
theorem mkDct_rep {K : PySem.W.Frag} {H : Hp} : ∀ {ds : List D} {ws : List V} {ks : List Key} {xs : List D}, RepDs K H ds ws → mkDct ds = some (ks, xs) → ∃ vs, RepDs K H xs vs ∧ ks.length = vs.length ∧ pairUp ws = (ks.zip vs).map (fun kv => (kV kv.1, kv.2)) ∧ ks.Nodup
  | [], ws, ks, xs, r, e => by
    simp only [mkDct, Option.some.injEq, Prod.mk.injEq] at e
    obtain ⟨rfl, rfl⟩ := e
    simp only [RepDs] at r
    subst r
    exact ⟨[], .nil, rfl, rfl, .nil⟩
  | [_], ws, ks, xs, r, e => by simp [mkDct] at e
  | k :: v :: ds, ws, ks, xs, r, e => by
    obtain ⟨u, r1, rfl, ru, r2⟩ := r.uncons
    obtain ⟨w, r3, rfl, rw', r4⟩ := r2.uncons
    unfold mkDct at e
    split at e
    · rename_i k' ks' vs' hk hm
      split at e <;> cases e
      rename_i hn
      obtain ⟨zs, q1, q2, q3, q4⟩ := mkDct_rep r4 hm
      have hu : u = kV k' := by
        cases k <;> simp only [keyOf] at hk <;> cases hk
        · simp only [RepD] at ru; exact ru
        · simp only [RepD] at ru; exact ru.1
      subst hu
      refine ⟨w :: zs, .cons rw' q1, by simp [q2], by simp [pairUp, q3], List.nodup_cons.mpr ⟨fun hmem => hn ?_, q4⟩⟩
      rw [List.any_eq_true]
      exact ⟨k', hmem, by simp⟩
    · cases e
theorem merge_new : ∀ (kvs acc : List (Key × V)), (acc.map (·.1) ++ kvs.map (·.1)).Nodup → mergeK acc kvs = acc ++ kvs
  | [], acc, _ => by simp [mergeK]
  | (k, v) :: r, acc, h => by
    have hk : valV acc k = none := by
      cases q : valV acc k with
      | none => rfl
      | some z =>
        exfalso
        have : (acc.any fun kv => decide (kv.1 = k)) = true := by rw [valV_any, q]; rfl
        obtain ⟨p, hp, e⟩ := List.any_eq_true.mp this
        have e := of_decide_eq_true e
        have d := (List.nodup_append.mp h).2.2
        exact d k (List.mem_map.mpr ⟨p, hp, e⟩) k (by simp) rfl
    show mergeK (putK acc k v) r = _
    rw [putK_new v hk, merge_new r (acc ++ [(k, v)]) (by simpa using h)]
    simp
theorem le_disp {keys : List (Option Expr)} {values : List Expr} {fs : List ((En → Sto → R Vv) × (En → Sto → R Vv))} (h : PPs X pos keys values (fs.map fun f => (LE g f.1, LE g f.2))) (hall : keys.all (·.isSome) = true) (hl : keys.length = values.length) (h0 : keys ≠ []) (h15 : keys.length ≤ 15) :
    PE X (.Dict keys values pos) (LE g fun en st => (prs fs en st).calm.bind kDcd) := by
  refine pe_weak (pe_disp h hall hl h0 h15) ?_
  rintro σ H Q ⟨m, en, st, rel, re, out⟩
  intro p np
  dsimp only at out
  cases hp : prs fs en st with
  | exc _ _ => rw [hp] at out; exact out.elim
  | stuck => rw [hp] at out; exact out.elim
  | ok vs st2 =>
    rw [hp] at out
    obtain ⟨r1, r2⟩ := rel.hide (o := .dK []) np (fun _ z => nomatch z)
    have nh := rel.fresh_ne np
    have re1 : RepE g.K ⟨m.ad, p :: m.hid⟩ (upd H p (.dK [])) en σ := re.sub ⟨[], by simp⟩ (by rw [r2]; exact .refl _)
    refine prs_read hp r1 re1 fun m2 H2 ws x2 l2 rs => ?_
    have hD : H2 p = some (.dK []) := by rw [x2.keep p (by simp)]; exact upd_same
    refine ⟨hD, ?_⟩
    have out : Out g m H σ (RepV g.K) Q (kDcd vs st2) := out
    unfold kDcd at out
    split at out
    · rename_i ds hds
      split at out
      · rename_i ks xs hk
        split at out
        · rename_i hle
          obtain ⟨zs, q1, q2, q3, q4⟩ := mkDct_rep (pures_rep hds rs) hk
          refine ⟨ks.zip zs, q3, by rw [List.length_zip]; omega, ?_⟩
          have hmg : mergeK [] (ks.zip zs) = ks.zip zs := by
            rw [merge_new _ _ (by
              simp only [List.map_nil, List.nil_append]
              rw [List.map_fst_zip (by omega)]
              exact q4)]
            rfl
          rw [hmg]
          have eh : m2.hid = p :: m.hid := x2.hid
          have em : m2 = ⟨m2.ad, p :: m.hid⟩ := by rw [← eh]
          rw [em] at l2 q1
          obtain ⟨s1, s2⟩ := Rel.show (m := ⟨m2.ad, m.hid⟩) l2 nh.2
          have n1 : out1 H2 p p = none := by unfold out1; simp
          have l3 := s1.fresh (o := .dK (ks.zip zs)) n1
          have e3 := s1.ext_fresh (o := .dK (ks.zip zs)) n1
          have eu : upd (out1 H2 p) p (.dK (ks.zip zs)) = upd H2 p (.dK (ks.zip zs)) := by
            funext b
            by_cases hb : b = p
            · subst hb; rw [upd_same, upd_same]
            · rw [upd_ne hb, upd_ne hb]; unfold out1; rw [if_neg hb]
          rw [eu] at l3 e3
          have sm : Same (hm m H) (hm ⟨m2.ad, m.hid⟩ (out1 H2 p)) := by
            rw [s2, ← r2]
            have := x2.same
            rw [em] at this
            exact this
          refine out ⟨m2.ad, m.hid⟩ (upd H2 p (.dK (ks.zip zs))) (.ref p) ⟨x2.pre, rfl, fun a ha => ?_, sm.trans e3.same, fun a ob u h => by rw [upd_ne (ne_of_none h np)]; exact x2.frz a ob u (by rw [upd_ne (ne_of_none h np)]; exact h)⟩ l3 ?_
          · have ne : a ≠ p := fun e => nh.2 (e ▸ ha)
            rw [upd_ne ne, x2.keep a (List.mem_cons_of_mem _ ha), upd_ne ne]
          · simp only [RepV, RepD]
            refine ⟨p, zs, rfl, hm_some.mpr ⟨s1.fresh_ne n1, upd_same⟩, q2, ?_⟩
            rw [← s2] at q1
            exact q1.mono e3.same
        · exact out.elim
      · exact out.elim
    · exact out.elim
end TW
namespace TW
open PySem PySem.Spec PyProof.Rows L2
/-! ### zip of two rows, strict or not -/
def ZO (q : Bool) (h : Heap) (z TI TO : Addr) (f0 : Value) : Prop :=
  h.get? z = some { cls := .type "zip", dict := none, data := .fields #[f0, .bool false, .bool q, .ref TI, .ref TO], slots := #[] }
section
variable {prog : Program} {w : World} {A : Around} {E : Value → Shared → Prop} {s : Shared} {it : Addr} {fp : List Addr} {n i : Nat} {P : Nat → Value → Prop} {St : Nat → Heap → Prop}
theorem draw_one (D : Draws prog w A it fp n P St) {Q : Option Value → Shared → Prop} (hi : i < n) (st : St i s.heap) (k : ∀ x h' tk, P i x → St (i + 1) h' → Heap.SameBut it s.heap h' → Q (some x) { s with heap := h', toks := tk }) :
    wpAny (model prog w) A (Builtin.SmallTypes.nextOrEnd (.ref it)) Q E s := by
  unfold Builtin.SmallTypes.nextOrEnd
  exact wpAny_bind (wpAny_attempt (D.item i s _ _ hi st fun x h' tk a b c => wpAny_pure (k x h' tk a b c)))
theorem draw_none (D : Draws prog w A it fp n P St) {Q : Option Value → Shared → Prop} (st : St n s.heap) (k : ∀ h', Heap.ExtBut it s.heap h' → Q none { s with heap := h' }) :
    wpAny (model prog w) A (Builtin.SmallTypes.nextOrEnd (.ref it)) Q E s := by
  unfold Builtin.SmallTypes.nextOrEnd
  refine wpAny_bind (wpAny_attempt (D.done s _ _ st fun h' e he ho => ?_))
  obtain ⟨o, h1, h2⟩ := ho
  exact wpAny_bind (wpAny_isInstance (T := "StopIteration") (b := true) ⟨o, h1, h2⟩ isSubtype_stop (wpAny_pure (k h' he)))
end
section
variable {prog : Program} {w : World} {A : Around} {E : Value → Shared → Prop} {s : Shared} {z TI TO i1 i2 : Addr} {fp1 fp2 : List Addr} {n1 n2 i : Nat} {P1 P2 : Nat → Value → Prop} {St1 St2 : Nat → Heap → Prop} {a1 a2 : Value}
theorem zipT_item {Q : Value → Shared → Prop} (S : ZipSep2 z TI TO i1 i2 fp1 fp2) (D1 : Draws prog w A i1 fp1 n1 P1 St1) (D2 : Draws prog w A i2 fp2 n2 P2 St2)
    (zo : ZO true s.heap z TI TO .none) (ti : IsTupOf2 s.heap TI (.ref i1) (.ref i2)) (to : IsTupOf2 s.heap TO a1 a2) (t1 : St1 i s.heap) (t2 : St2 i s.heap) (l1 : i < n1) (l2 : i < n2)
    (k : ∀ x y h' tk, P1 i x → P2 i y → ZO true h' z TI TO (rawInt s.heap.objs.size) → IsTupOf2 h' TO x y → St1 (i + 1) h' → St2 (i + 1) h' → IsTupOf2 h' s.heap.objs.size x y →
      (∀ c o, c ≠ z → c ≠ TO → c ≠ i1 → c ≠ i2 → s.heap.get? c = some o → h'.get? c = some o) → Q (.ref s.heap.objs.size) { s with heap := h', toks := tk }) :
    wpAny (model prog w) A (Builtin.«zip.__next__» ⟨[.ref z], []⟩) (fun fin s' => ∃ v, fin = .done (.ret v) ∧ Q v s') E s := by
  obtain ⟨b0, ge, dr, tk, os⟩ := s
  unfold ZO at zo
  show wpAny _ _ (field (.ref z) 2 >>= _) _ _ _
  refine wpAny_bind (wpAny_field zo rfl (x := .bool true) rfl ?_)
  show wpAny _ _ (field (.ref z) 3 >>= _) _ _ _
  refine wpAny_bind (wpAny_field zo rfl (x := .ref TI) rfl (wpAny_bind (wpAny_seqItems ti rfl ?_)))
  show wpAny _ _ (Builtin.SmallTypes.ownedTupleIsFree (.ref z) >>= _) _ _ _
  unfold Builtin.SmallTypes.ownedTupleIsFree
  refine wpAny_bind (wpAny_bind (wpAny_field zo rfl (x := .none) rfl (wpAny_pure ?_)))
  rw [if_pos rfl]
  refine wpAny_bind (wpAny_rule (wpAny_bind (wpAny_field zo rfl (x := .ref TO) rfl (wpAny_bind (wpAny_setField_rec zo (by simp) fun b1 z1 e1 => wpAny_bind ?_)))))
  have e1 : Heap.SameBut z b0 b1 := e1
  have z1 : ZO true b1 z TI TO .ellipsis := z1
  simp only [List.zipIdx_cons, List.zipIdx_nil, List.forIn_cons, List.forIn_nil]
  refine wpAny_bind (wpAny_bind (wpAny_onRaise (draw_one (s := ⟨b1, ge, dr, tk, os⟩) D1 l1 (D1.over t1 e1 S.zf1) fun x b2 tk1 px u1 e2 => ?_)))
  have e2 : Heap.SameBut i1 b1 b2 := e2
  have o2 : IsTupOf2 b2 TO a1 a2 := e2.extBut _ _ S.Ti1 (e1.extBut _ _ S.TOz to)
  refine wpAny_bind (wpAny_seqItems (s := ⟨b2, ge, dr, tk1, os⟩) o2 rfl (wpAny_bind (updateSeq_IsTupOf2 (s := ⟨b2, ge, dr, tk1, os⟩) o2 fun b3 o3 e3 => wpAny_bind (wpAny_letGo (wpAny_pure ?_)))))
  have o3 : IsTupOf2 b3 TO x a2 := o3
  have e3 : Heap.SameBut TO b2 b3 := e3
  refine wpAny_bind (wpAny_bind (wpAny_onRaise (draw_one (s := ⟨b3, ge, dr, tk1, os⟩) D2 l2 (D2.over (D2.over (D2.over t2 e1 S.zf2) e2 S.sep1_2) e3 S.Tf2) fun y b4 tk2 py u2 e4 => ?_)))
  have e4 : Heap.SameBut i2 b3 b4 := e4
  have o4 : IsTupOf2 b4 TO x a2 := e4.extBut _ _ S.Ti2 o3
  refine wpAny_bind (wpAny_seqItems (s := ⟨b4, ge, dr, tk2, os⟩) o4 rfl (wpAny_bind (updateSeq_IsTupOf2 (s := ⟨b4, ge, dr, tk2, os⟩) o4 fun b5 o5 e5 => wpAny_bind (wpAny_letGo (wpAny_pure (wpAny_pure ?_))))))
  have o5 : IsTupOf2 b5 TO x y := o5
  have e5 : Heap.SameBut TO b4 b5 := e5
  refine wpAny_bind (wpAny_seqItems (s := ⟨b5, ge, dr, tk2, os⟩) o5 rfl (wpAny_bind (wpAny_newTuple ?_)))
  have sz : b5.objs.size = b0.objs.size := by rw [e5.1, e4.1, e3.1, e2.1, e1.1]
  have z5 : ZO true b5 z TI TO .ellipsis := e5.extBut _ _ S.TOz.symm (e4.extBut _ _ S.zi2 (e3.extBut _ _ S.TOz.symm (e2.extBut _ _ S.zi1 z1)))
  have st5 : ∀ c o, c ≠ z → c ≠ TO → c ≠ i1 → c ≠ i2 → b0.get? c = some o → b5.get? c = some o := fun c o p q r t g =>
    e5.extBut _ _ q (e4.extBut _ _ t (e3.extBut _ _ q (e2.extBut _ _ r (e1.extBut _ _ p g))))
  have v1 : St1 (i + 1) b5 := D1.over (D1.over (D1.over u1 e3 S.Tf1) e4 S.sep2_1) e5 S.Tf1
  have v2 : St2 (i + 1) b5 := D2.over u2 e5 S.Tf2
  have zl : z < b5.objs.size := Heap.lt_size z5
  show wpAny _ _ (Builtin.SmallTypes.ownedTupleHandOut (.ref z) (.ref b5.objs.size) >>= _) _ _ ⟨b5.push { cls := .type "tuple", data := .seq #[x, y] }, ge, dr, tk2, os⟩
  unfold Builtin.SmallTypes.ownedTupleHandOut
  have z6 : ZO true (b5.push { cls := .type "tuple", data := .seq #[x, y] }) z TI TO .ellipsis := Heap.get?_push_of_some _ z5
  refine wpAny_bind (wpAny_bind (wpAny_setField_rec z6 (by simp) fun b7 z7 e7 => ?_))
  have z7 : ZO true b7 z TI TO (rawInt b5.objs.size) := z7
  refine wpAny_setField_rec z7 (by simp) fun b8 z8 e8 => wpAny_pure ⟨_, rfl, ?_⟩
  have z8 : ZO true b8 z TI TO (rawInt b5.objs.size) := z8
  have lift : ∀ c o, c ≠ z → b5.get? c = some o → b8.get? c = some o := fun c o p g => e8.extBut _ _ p (e7.extBut _ _ p (Heap.get?_push_of_some _ g))
  have nw : IsTupOf2 b8 b5.objs.size x y := e8.extBut _ _ (Nat.ne_of_gt zl) (e7.extBut _ _ (Nat.ne_of_gt zl) (Heap.get?_push_size _ rfl))
  show Q (.ref b5.objs.size) ⟨b8, ge, dr, tk2, os⟩
  rw [sz] at z8 nw ⊢
  refine k x y b8 tk2 px py z8 (lift _ _ S.TOz o5) (D1.frame _ _ _ v1 fun b hb o g => lift b o (fun q => S.zf1 (q ▸ hb)) g) (D2.frame _ _ _ v2 fun b hb o g => lift b o (fun q => S.zf2 (q ▸ hb)) g) nw fun c o p q r t g => lift c o p (st5 c o p q r t g)
/-- both at their ends -/
theorem zipT_end {Q : Fin → Shared → Prop} (hh : A.handled = none) (S : ZipSep2 z TI TO i1 i2 fp1 fp2) (D1 : Draws prog w A i1 fp1 n1 P1 St1) (D2 : Draws prog w A i2 fp2 n2 P2 St2)
    (zo : ZO true s.heap z TI TO .none) (ti : IsTupOf2 s.heap TI (.ref i1) (.ref i2)) (t1 : St1 n1 s.heap) (t2 : St2 n2 s.heap)
    (k : ∀ h' e, (∀ c o, c ≠ z → c ≠ i1 → c ≠ i2 → s.heap.get? c = some o → h'.get? c = some o) → (∃ o, h'.get? e = some o ∧ o.cls = .type "StopIteration") → E (.ref e) { s with heap := h' }) :
    wpAny (model prog w) A (Builtin.«zip.__next__» ⟨[.ref z], []⟩) Q E s := by
  obtain ⟨b0, ge, dr, tk, os⟩ := s
  unfold ZO at zo
  show wpAny _ _ (field (.ref z) 2 >>= _) _ _ _
  refine wpAny_bind (wpAny_field zo rfl (x := .bool true) rfl ?_)
  show wpAny _ _ (field (.ref z) 3 >>= _) _ _ _
  refine wpAny_bind (wpAny_field zo rfl (x := .ref TI) rfl (wpAny_bind (wpAny_seqItems ti rfl ?_)))
  show wpAny _ _ (Builtin.SmallTypes.ownedTupleIsFree (.ref z) >>= _) _ _ _
  unfold Builtin.SmallTypes.ownedTupleIsFree
  refine wpAny_bind (wpAny_bind (wpAny_field zo rfl (x := .none) rfl (wpAny_pure ?_)))
  rw [if_pos rfl]
  refine wpAny_bind (wpAny_rule (wpAny_bind (wpAny_field zo rfl (x := .ref TO) rfl (wpAny_bind (wpAny_setField_rec zo (by simp) fun b1 z1 e1 => wpAny_bind ?_)))))
  have e1 : Heap.SameBut z b0 b1 := e1
  have z1 : ZO true b1 z TI TO .ellipsis := z1
  simp only [List.zipIdx_cons, List.zipIdx_nil, List.forIn_cons, List.forIn_nil]
  refine wpAny_bind (wpAny_bind (wpAny_onRaise (draw_none (s := ⟨b1, ge, dr, tk, os⟩) D1 (D1.over t1 e1 S.zf1) fun b2 e2 => ?_)))
  have e2 : Heap.ExtBut i1 b1 b2 := e2
  have z2 : ZO true b2 z TI TO .ellipsis := e2 _ _ S.zi1 z1
  refine wpAny_bind (wpAny_setField_rec (s := ⟨b2, ge, dr, tk, os⟩) z2 (by simp) fun b3 z3 e3 => ?_)
  have e3 : Heap.SameBut z b2 b3 := e3
  have up3 : ∀ c o, c ≠ z → c ≠ i1 → b0.get? c = some o → b3.get? c = some o := fun c o p q g => e3.extBut _ _ p (e2 _ _ q (e1.extBut _ _ p g))
  have v2 : St2 n2 b3 := D2.frame _ _ _ t2 fun b hb o g => up3 b o (fun q => S.zf2 (q ▸ hb)) (fun q => S.sep1_2 (q ▸ hb)) g
  refine wpAny_bind ?_
  show wpAny _ _ ((forIn (m := Sem) (List.zipIdx [Value.ref i2] 1) PUnit.unit _) >>= _) _ _ _
  simp only [List.zipIdx_cons, List.zipIdx_nil, List.forIn_cons, List.forIn_nil]
  refine wpAny_bind (wpAny_bind (wpAny_bind (draw_none (s := ⟨b3, ge, dr, tk, os⟩) D2 v2 fun b4 e4 => ?_)))
  have e4 : Heap.ExtBut i2 b3 b4 := e4
  rw [if_neg (by simp)]
  refine wpAny_pure (wpAny_pure (wpAny_bind (wpAny_rule ?_)))
  unfold Builtin.SmallTypes.stopIteration
  refine wpAny_bind ?_
  simp only [newExc, newTuple]
  refine wpAny_bind (wpAny_newObj_type ?_ (by size_fits))
  refine wpAny_bind (m := firstArgMember _ _) (wpAny_of_eq (a := Value.none) (by first | rfl | (simp only [firstArgMember]; rfl)) (wpAny_newObj_type ?_ (by size_fits)))
  simp only [raiseNew]
  refine wpAny_bind (wpAny_handled ?_)
  rw [hh]
  refine wpAny_bind (wpAny_pure (wpAny_throw ?_))
  exact k _ _ (fun c o p q r g => Heap.get?_push_of_some _ (Heap.get?_push_of_some _ (e4 _ _ r (up3 c o p q g)))) ⟨_, Heap.get?_push_size _ rfl, rfl⟩
end
section
variable {prog : Program} {w : World} {A : Around} {E : Value → Shared → Prop} {s : Shared} {z TI TO i1 i2 : Addr} {fp1 fp2 : List Addr} {n1 n2 i : Nat} {P1 P2 : Nat → Value → Prop} {St1 St2 : Nat → Heap → Prop} {a1 a2 : Value}
/-- the next pair, or the end, strict or not -/
theorem zip_next_item {q : Bool} {Q : Option Value → Shared → Prop} (S : ZipSep2 z TI TO i1 i2 fp1 fp2) (D1 : Draws prog w A.in1 i1 fp1 n1 P1 St1) (D2 : Draws prog w A.in1 i2 fp2 n2 P2 St2)
    (zo : ZO q s.heap z TI TO .none) (ti : IsTupOf2 s.heap TI (.ref i1) (.ref i2)) (to : IsTupOf2 s.heap TO a1 a2) (t1 : St1 i s.heap) (t2 : St2 i s.heap) (l1 : i < n1) (l2 : i < n2)
    (k : ∀ x y h' tk, P1 i x → P2 i y → ZO q h' z TI TO (rawInt s.heap.objs.size) → IsTupOf2 h' TO x y → St1 (i + 1) h' → St2 (i + 1) h' → IsTupOf2 h' s.heap.objs.size x y →
      (∀ c o, c ≠ z → c ≠ TO → c ≠ i1 → c ≠ i2 → s.heap.get? c = some o → h'.get? c = some o) → Q (some (.ref s.heap.objs.size)) { s with heap := h', toks := tk }) :
    wpAny (model prog w) A (pyNext (.ref z)) Q E s := by
  cases q with
  | false => exact wpAny_pyNext_zipD2_item S D1 D2 zo ti to t1 t2 l1 l2 fun x y h' tk p1 p2 z' o' u1 u2 nw _ kp => k x y h' tk p1 p2 z' o' u1 u2 nw kp
  | true =>
    have ty : s.TypeIs (.ref z) "zip" := ⟨_, zo, rfl⟩
    unfold pyNext
    refine wpAny_bind (wpAny_attempt (wpAny_callSpecial?_slot (name := Str.ofString "__next__") ty F.slot_zip_next (wpAny_call_entry F.slot_zip_next ty F.entry_zip_next ?_ (F.args_zip_next_1 _))))
    exact zipT_item S D1 D2 zo ti to t1 t2 l1 l2 fun x y h' tk p1 p2 z' o' u1 u2 nw kp => wpAny_pure (k x y h' tk p1 p2 z' o' u1 u2 nw kp)
theorem zip_next_end {q : Bool} {Q : Option Value → Shared → Prop} (hh : A.in1.handled = none) (S : ZipSep2 z TI TO i1 i2 fp1 fp2) (D1 : Draws prog w A.in1 i1 fp1 n1 P1 St1) (D2 : Draws prog w A.in1 i2 fp2 n2 P2 St2)
    (zo : ZO q s.heap z TI TO .none) (ti : IsTupOf2 s.heap TI (.ref i1) (.ref i2)) (to : IsTupOf2 s.heap TO a1 a2) (t1 : St1 i s.heap) (t2 : St2 i s.heap) (l1 : i ≤ n1) (l2 : i ≤ n2) (le : if q = true then i = n1 ∧ i = n2 else i = n1 ∨ i = n2)
    (k : ∀ h' tk, (∀ c o, c ≠ z → c ≠ TO → c ≠ i1 → c ≠ i2 → s.heap.get? c = some o → h'.get? c = some o) → Q none { s with heap := h', toks := tk }) : wpAny (model prog w) A (pyNext (.ref z)) Q E s := by
  cases q with
  | false => exact wpAny_pyNext_zipD2_end S D1 D2 zo ti to t1 t2 l1 l2 (by simpa using le) k
  | true =>
    obtain ⟨rfl, rfl⟩ : i = n1 ∧ i = n2 := by simpa using le
    have ty : s.TypeIs (.ref z) "zip" := ⟨_, zo, rfl⟩
    unfold pyNext
    refine wpAny_bind (wpAny_attempt (wpAny_callSpecial?_slot (name := Str.ofString "__next__") ty F.slot_zip_next (wpAny_call_entry F.slot_zip_next ty F.entry_zip_next ?_ (F.args_zip_next_1 _))))
    refine zipT_end hh S D1 D2 zo ti t1 t2 fun h' e kp ho => ?_
    obtain ⟨o, h1, h2⟩ := ho
    exact wpAny_bind (wpAny_isInstance (T := "StopIteration") (b := true) ⟨o, h1, h2⟩ isSubtype_stop (wpAny_pure (k h' s.toks fun c o p _ r t g => kp c o p r t g)))
theorem zip_let {q : Bool} {el : List Expr} {x1} {pos : Pos} {T : Addr} {Q : Unit → Shared → Prop} (zo : ZO q s.heap z TI TO (rawInt T)) (k : ∀ h', ZO q h' z TI TO .none → Heap.SameBut z s.heap h' → Q () { s with heap := h' }) :
    wpAny (model prog w) A (letOwnedTupleGo (.Tuple el x1 pos) (.ref z) (.ref T)) Q E s := by
  unfold letOwnedTupleGo ZO at *
  refine wpAny_bind (wpAny_load zo ?_)
  dsimp only
  rw [if_pos (by simp)]
  refine wpAny_bind (wpAny_rule ?_)
  exact wpAny_setField_rec zo (by simp) k
theorem zip_self {q : Bool} {f0 : Value} {Q : Value → Shared → Prop} (zo : ZO q s.heap z TI TO f0) (h : Q (.ref z) s) : wpAny (model prog w) A (pyIter (.ref z)) Q E s := by
  have ty : s.TypeIs (.ref z) "zip" := ⟨_, zo, rfl⟩
  refine wpAny_pyIter_slot ty F.slot_zip_iter (wpAny_call_entry F.slot_zip_iter ty F.entry_zip_iter ?_ (F.args_zip_iter_1 _))
  exact wpAny_pure ⟨_, rfl, "zip", _, ty, F.slot_zip_next.lookup, h⟩
end
/-! rows of either kind: true a tuple, false a list -/
def itSt (k : Bool) (h : Heap) (it a : Addr) (i : Nat) : Prop := match k with | true => h.IsTupleIter it a i | false => h.IsListIter it a i
def sqK (k : Bool) (K : PySem.W.Frag) (H : Hp) (a : Addr) (xs : List V) : Prop := match k with | true => SqT K H a xs | false => SqL K H a xs
def obK (k : Bool) (h : Heap) (a : Addr) (its : Array Value) : Prop := match k with | true => h.IsTuple a its | false => h.IsList a its
theorem drawK {prog : Program} {w : World} {A : Around} (k : Bool) (hh : A.handled = none) (it a : Addr) (ne : a ≠ it) (its : Array Value) : Draws prog w A it [it, a] its.size (fun i v => its[i]? = some v) (fun i h => itSt k h it a i ∧ obK k h a its) := by
  cases k
  · exact Draws.list hh it a ne its
  · exact Draws.tuple hh it a ne its
theorem itSt.obj {k : Bool} {h : Heap} {it a : Addr} {i : Nat} (t : itSt k h it a i) : ∃ o, h.get? it = some o ∧ ∀ v, o.data ≠ .cell v := by
  cases k <;> (obtain ⟨o, ho, _, hd⟩ := t; exact ⟨o, ho, fun v z => by rw [hd] at z; cases z⟩)
theorem itSt.at {k : Bool} {h h' : Heap} {it a : Addr} {i : Nat} (t : itSt k h it a i) (e : ∀ o, h.get? it = some o → h'.get? it = some o) : itSt k h' it a i := by
  cases k
  · exact Heap.IsListIter.at t e
  · exact Heap.IsTupleIter.at t e
theorem inv_sq {X : Cx} {pins : List (Addr × Obj)} {σ : L2.St} {H : Hp} {s : Shared} (I : Inv X pins σ H s) {k : Bool} {a : Addr} {xs : List V} (h : sqK k X.K H a xs) : ∃ its : List Value, Vals xs its ∧ obK k s.heap a its.toArray ∧ a < s.heap.objs.size := by
  cases k
  · obtain ⟨its, rv, p, _⟩ := I.list h
    exact ⟨its, rv, p.isList, p.lt⟩
  · obtain ⟨its, rv, p, _⟩ := I.tuple h
    exact ⟨its, rv, p, p.lt⟩
theorem sq_inj {X : Cx} {pins : List (Addr × Obj)} {σ : L2.St} {H : Hp} {s : Shared} (I : Inv X pins σ H s) {k : Bool} {a : Addr} {xs ys : List V} (h : sqK k X.K H a xs) (g : sqK k X.K H a ys) : xs = ys := by
  cases k
  · exact I.list_inj h g
  · exact I.tuple_inj h g
theorem vals_back {xs : List V} {us : List Value} (r : Vals xs us) {i : Nat} {v : Value} (e : us[i]? = some v) : ∃ x, xs[i]? = some x ∧ RelV x v := by
  induction r generalizing i with
  | nil => simp at e
  | cons h t ih =>
    cases i with
    | zero => simp at e; subst e; exact ⟨_, rfl, h⟩
    | succ i => simp at e; simpa using ih e
/-! a row of a zip: a list, a tuple, a text -/
inductive Rw where
  | lst (a : Addr) | tup (a : Addr) | txt (s : Str)
def Rw.v : Rw → V
  | .lst a => .ref a | .tup a => .ref a | .txt s => .str s
def Rw.fp (it : Addr) : Rw → List Addr
  | .lst a => [it, a] | .tup a => [it, a] | .txt _ => [it]
def Rw.lt (n : Nat) : Rw → Prop
  | .lst a => a < n | .tup a => a < n | .txt _ => True
def itR (h : Heap) (it : Addr) (i : Nat) : Rw → Prop
  | .lst a => h.IsListIter it a i | .tup a => h.IsTupleIter it a i | .txt s => ∃ t, h.IsStrIter it (strIterType s) s t i
def sqR (K : PySem.W.Frag) (H : Hp) : Rw → List V → Prop
  | .lst a, xs => SqL K H a xs
  | .tup a, xs => SqT K H a xs
  | .txt s, xs => xs = s.cps.toList.map fun c => V.str ⟨#[c]⟩
def obR (h : Heap) (its : Array Value) : Rw → Prop
  | .lst a => h.IsList a its | .tup a => h.IsTuple a its | .txt s => its.size = s.cps.size
def pR (its : Array Value) : Rw → Nat → Value → Prop
  | .lst _, i, v => its[i]? = some v
  | .tup _, i, v => its[i]? = some v
  | .txt s, i, v => ∃ c u, s.cps[i]? = some c ∧ v = .str ⟨#[c]⟩ u
theorem draw_ex {prog : Program} {w : World} {A : Around} {it : Addr} {fp : List Addr} {n : Nat} {P : Nat → Value → Prop} {St : Tok → Nat → Heap → Prop} {c : Prop} (D : ∀ t, Draws prog w A it fp n P (St t)) : Draws prog w A it fp n P (fun i h => (∃ t, St t i h) ∧ c) where
  live := fun i h st => let ⟨⟨t, z⟩, _⟩ := st; (D t).live i h z
  frame := fun i h h' st k => let ⟨⟨t, z⟩, y⟩ := st; ⟨⟨t, (D t).frame i h h' z k⟩, y⟩
  item := fun i s Q E hi st k => let ⟨⟨t, z⟩, y⟩ := st; (D t).item i s Q E hi z fun x h' tk a b c => k x h' tk a ⟨⟨t, b⟩, y⟩ c
  done := fun s Q E st k => let ⟨⟨t, z⟩, _⟩ := st; (D t).done s Q E z k
theorem drawR {prog : Program} {w : World} {A : Around} (r : Rw) (hh : A.handled = none) (it : Addr) (lt : ∀ a, r = .lst a ∨ r = .tup a → a ≠ it) (its : Array Value) (hs : ∀ s, r = .txt s → its.size = s.cps.size) : Draws prog w A it (r.fp it) its.size (pR its r) (fun i h => itR h it i r ∧ obR h its r) := by
  cases r with
  | lst a => exact Draws.list hh it a (lt a (.inl rfl)) its
  | tup a => exact Draws.tuple hh it a (lt a (.inr rfl)) its
  | txt s =>
    have e := hs s rfl
    show Draws prog w A it [it] its.size (fun i v => ∃ c u, s.cps[i]? = some c ∧ v = .str ⟨#[c]⟩ u) (fun i h => (∃ t, h.IsStrIter it (strIterType s) s t i) ∧ its.size = s.cps.size)
    rw [e]
    unfold strIterType
    split
    · exact draw_ex fun t => Draws.strAscii hh it s t
    · exact draw_ex fun t => Draws.strWide hh it s t
theorem itR.obj {h : Heap} {it : Addr} {i : Nat} {r : Rw} (t : itR h it i r) : ∃ o, h.get? it = some o ∧ ∀ v, o.data ≠ .cell v := by
  cases r with
  | lst a => obtain ⟨o, ho, _, hd⟩ := t; exact ⟨o, ho, fun v z => by rw [hd] at z; cases z⟩
  | tup a => obtain ⟨o, ho, _, hd⟩ := t; exact ⟨o, ho, fun v z => by rw [hd] at z; cases z⟩
  | txt s => obtain ⟨t, o, ho, _, hd⟩ := t; exact ⟨o, ho, fun v z => by rw [hd] at z; cases z⟩
theorem itR.at {h h' : Heap} {it : Addr} {i : Nat} {r : Rw} (t : itR h it i r) (e : ∀ o, h.get? it = some o → h'.get? it = some o) : itR h' it i r := by
  cases r with
  | lst a => exact Heap.IsListIter.at t e
  | tup a => exact Heap.IsTupleIter.at t e
  | txt s => obtain ⟨t, o, ho, x⟩ := t; exact ⟨t, o, e o ho, x⟩
theorem inv_sqR {X : Cx} {pins : List (Addr × Obj)} {σ : L2.St} {H : Hp} {s : Shared} (I : Inv X pins σ H s) {r : Rw} {xs : List V} (h : sqR X.K H r xs) : ∃ its : Array Value, obR s.heap its r ∧ its.size = xs.length ∧ r.lt s.heap.objs.size ∧ (∀ z, r = .txt z → its.size = z.cps.size) ∧ ∀ i v, pR its r i v → ∃ x, xs[i]? = some x ∧ RelV x v := by
  cases r with
  | lst a =>
    obtain ⟨its, rv, p, _⟩ := I.list h
    refine ⟨its.toArray, p.isList, by simp [rv.length], p.lt, fun z e => (nomatch e), fun i v e => ?_⟩
    have e' : its[i]? = some v := by simpa [pR] using e
    exact vals_back rv e'
  | tup a =>
    obtain ⟨its, rv, p, _⟩ := I.tuple h
    refine ⟨its.toArray, p, by simp [rv.length], p.lt, fun z e => (nomatch e), fun i v e => ?_⟩
    have e' : its[i]? = some v := by simpa [pR] using e
    exact vals_back rv e'
  | txt z =>
    have h : xs = z.cps.toList.map fun c => V.str ⟨#[c]⟩ := h
    subst h
    refine ⟨Array.replicate z.cps.size .none, by simp [obR], by simp, trivial, fun z' e => by cases e; simp, fun i v e => ?_⟩
    obtain ⟨c, u, e1, rfl⟩ := e
    exact ⟨.str ⟨#[c]⟩, by simp [e1], ⟨u, rfl⟩⟩
theorem sqR_inj {X : Cx} {pins : List (Addr × Obj)} {σ : L2.St} {H : Hp} {s : Shared} (I : Inv X pins σ H s) {r : Rw} {xs ys : List V} (h : sqR X.K H r xs) (g : sqR X.K H r ys) : xs = ys := by
  cases r with
  | lst a => exact I.list_inj h g
  | tup a => exact I.tuple_inj h g
  | txt z => exact (show xs = _ from h).trans (show ys = _ from g).symm
def ItZ (K : PySem.W.Frag) (q : Bool) (a b : Rw) : L2.It where
  go i H := ∃ xs ys x y, sqR K H a xs ∧ sqR K H b ys ∧ xs[i]? = some x ∧ ys[i]? = some y
  yld i H v H' := ∃ T x y, v = .ref T ∧ H T = none ∧ H' = upd H T (.tup [x, y]) ∧ (∀ xs, sqR K H a xs → xs[i]? = some x) ∧ ∀ ys, sqR K H b ys → ys[i]? = some y
  stop i H := ∃ xs ys, sqR K H a xs ∧ sqR K H b ys ∧ i ≤ xs.length ∧ i ≤ ys.length ∧ if q = true then i = xs.length ∧ i = ys.length else i = xs.length ∨ i = ys.length
theorem turnZ {P : Program} {w : World} {K : PySem.W.Frag} {el : List Expr} {kk : Nat} {tp : Pos} {q : Bool} {z TI TO i1 i2 : Addr} {a b : Rw} (S : ZipSep2 z TI TO i1 i2 (a.fp i1) (b.fp i2)) (na : ∀ x, a = .lst x ∨ a = .tup x → x ≠ i1) (nb : ∀ x, b = .lst x ∨ b = .tup x → x ≠ i2) :
    Turn P w K (.Tuple el kk tp) (ItZ K q a b) [z, TI, TO, i1, i2] z (fun i h => ZO q h z TI TO .none ∧ IsTupOf2 h TI (.ref i1) (.ref i2) ∧ (∃ x y, IsTupOf2 h TO x y) ∧ itR h i1 i a ∧ itR h i2 i b) where
  mem := by simp
  obj := fun i h st c hc => by
    obtain ⟨zo, ti, ⟨x, y, to⟩, t1, t2⟩ := st
    rcases (show c = z ∨ c = TI ∨ c = TO ∨ c = i1 ∨ c = i2 by simpa using hc) with r | r | r | r | r <;> subst r
    · exact ⟨_, zo, fun v r => nomatch r⟩
    · exact ⟨_, ti, fun v r => nomatch r⟩
    · exact ⟨_, to, fun v r => nomatch r⟩
    · exact t1.obj
    · exact t2.obj
  keep := fun i h h' st k => by
    obtain ⟨zo, ti, ⟨x, y, to⟩, t1, t2⟩ := st
    exact ⟨k _ (by simp) _ zo, k _ (by simp) _ ti, ⟨x, y, k _ (by simp) _ to⟩, t1.at (k _ (by simp)), t2.at (k _ (by simp))⟩
  item := by
    intro X hP hw hK hc i pins s σ H E I hf st hg
    subst hP hw hK
    obtain ⟨zo, ti, ⟨x0, y0, to⟩, t1, t2⟩ := st
    obtain ⟨xs, ys, x, y, hx, hy, ex, ey⟩ := hg
    obtain ⟨us, o1, su, _, tu, gu'⟩ := inv_sqR I hx
    obtain ⟨ws, o2, sw, _, tw, gw'⟩ := inv_sqR I hy
    have hh : X.A.in1.handled = none := I.ok.hd hc
    have zl : z < s.heap.objs.size := Heap.lt_size zo
    have gu : i < us.size := by have := (List.getElem?_eq_some_iff.mp ex).1; omega
    have gv : i < ws.size := by have := (List.getElem?_eq_some_iff.mp ey).1; omega
    refine zip_next_item S (drawR a hh i1 na us tu) (drawR b hh i2 nb ws tw) zo ti to ⟨t1, o1⟩ ⟨t2, o2⟩ gu gv fun u v h' tk p1 p2 z' o' s1 s2 nw kp => ?_
    obtain ⟨x', f1, vu⟩ := gu' i u p1
    obtain ⟨y', f2, vv⟩ := gw' i v p2
    rw [ex] at f1
    rw [ey] at f2
    cases f1
    cases f2
    refine ⟨_, rfl, zip_let (s := { s with heap := h', toks := tk }) z' fun h2 z2 sb => ?_⟩
    have nw2 : h2.get? s.heap.objs.size = some { cls := .type "tuple", data := .seq #[u, v] } := (sb.2 _ (Nat.ne_of_gt zl)).trans nw
    have new : ObjOk X.prog X.w (upd H s.heap.objs.size (.tup [x, y])) h2 s.heap.objs.size (.tup [x, y]) := ⟨by show 2 ≤ sizeLine; decide, [u, v], .cons vu (.cons vv .nil), ⟨_, nw2, rfl, _, rfl⟩⟩
    have I1 := I.turnedNew (t' := tk) (ch := [z, TI, TO, i1, i2]) (h' := h2) (fun c o hb r => (sb.2 c (fun y => hb (by simp [y]))).trans (kp c o (fun y => hb (by simp [y])) (fun y => hb (by simp [y])) (fun y => hb (by simp [y])) (fun y => hb (by simp [y])) r)) hf (Nat.le_refl _) new
    refine ⟨.ref s.heap.objs.size, _, I1, rfl, ⟨_, x, y, rfl, I.hok.fresh (Nat.le_refl _), rfl, fun l hl => by rw [sqR_inj I hl hx]; exact ex, fun l hl => by rw [sqR_inj I hl hy]; exact ey⟩, ⟨z2, (sb.2 _ S.TIz).trans (kp _ _ S.TIz S.TITO S.TIi1 S.TIi2 ti), ⟨u, v, (sb.2 _ S.TOz).trans o'⟩, s1.1.at fun o r => (sb.2 _ S.zi1.symm).trans r, s2.1.at fun o r => (sb.2 _ S.zi2.symm).trans r⟩, fun c hcm => ?_⟩
    have lt : c < s.heap.objs.size := by
      rcases (show c = z ∨ c = TI ∨ c = TO ∨ c = i1 ∨ c = i2 by simpa using hcm) with r | r | r | r | r <;> subst r
      · exact zl
      · exact Heap.lt_size ti
      · exact Heap.lt_size to
      · obtain ⟨_, r, _⟩ := t1.obj; exact Heap.lt_size r
      · obtain ⟨_, r, _⟩ := t2.obj; exact Heap.lt_size r
    rw [upd_ne (Nat.ne_of_lt lt)]
    exact (hf c hcm).1
  done := by
    intro X hP hw hK hc i pins s σ H E I hf st hg
    subst hP hw hK
    obtain ⟨zo, ti, ⟨x0, y0, to⟩, t1, t2⟩ := st
    obtain ⟨xs, ys, hx, hy, l1, l2, le⟩ := hg
    obtain ⟨us, o1, c1, _, tu, _⟩ := inv_sqR I hx
    obtain ⟨ws, o2, c2, _, tw, _⟩ := inv_sqR I hy
    have hh : X.A.in1.handled = none := I.ok.hd hc
    exact zip_next_end hh S (drawR a hh i1 na us tu) (drawR b hh i2 nb ws tw) zo ti to ⟨t1, o1⟩ ⟨t2, o2⟩ (by omega) (by omega) (by rw [c1, c2]; exact le) fun h' tk kp => ⟨rfl, I.turnedL (t' := tk) (ch := [z, TI, TO, i1, i2]) (fun c o hb r =>
      kp c o (fun y => hb (by simp [y])) (fun y => hb (by simp [y])) (fun y => hb (by simp [y])) (fun y => hb (by simp [y])) r) hf⟩
  self := fun A i s Q E st h => zip_self st.1 h
/-! ### zip(a, b), zip(a, b, strict=True) -/
abbrev zh1 (h : Heap) (o1 o2 : Obj) : Heap := (h.push o1).push o2
abbrev zh2 (h : Heap) (o1 o2 : Obj) : Heap := (zh1 h o1 o2).push { cls := .type "tuple", data := .seq #[.ref h.objs.size, .ref (h.push o1).objs.size] }
abbrev zh3 (h : Heap) (o1 o2 : Obj) : Heap := (zh2 h o1 o2).push { cls := .type "tuple", data := .seq #[.none, .none] }
abbrev zh4 (h : Heap) (o1 o2 : Obj) : Heap := (zh3 h o1 o2).push { cls := .type "zip", data := .fields #[.none, .bool false, .bool true, .ref (zh1 h o1 o2).objs.size, .ref (zh2 h o1 o2).objs.size] }
theorem zipS_meets {v1 v2 : Value} {o1 o2 : Obj} {H1 H2 : Heap → Prop} (B1 : Begins v1 o1 H1) (B2 : Begins v2 o2 H2) :
    Meets (Builtin.«zip.__new__» ⟨[.type "zip", v1, v2], [(Str.ofString "strict", .bool true)]⟩) (fun _ RR ss => (H1 ss.heap ∧ H2 ss.heap) ∧ RR (.ok (.ret (.ref (zh3 ss.heap o1 o2).objs.size))) { ss with heap := zh4 ss.heap o1 o2 }) :=
  .of_wp fun pr ww AA RR ss hy => by
    obtain ⟨hp, g, d, tk, os⟩ := ss
    obtain ⟨⟨y1, y2⟩, hy⟩ := hy
    have sb := sub_zip
    have g1 : ∀ {A' : Around} {E : Value → Shared → Prop} {Q : Value → Shared → Prop}, Q (.ref hp.objs.size) ⟨hp.push o1, g, d, tk, os⟩ → wpAny (model pr ww) A' (pyIter v1) Q E ⟨hp, g, d, tk, os⟩ :=
      fun k => B1.iter pr ww _ _ ⟨hp, g, d, tk, os⟩ _ (B1.keeps _ _ y1 fun b o e => e) k
    have g2 : ∀ {A' : Around} {E : Value → Shared → Prop} {Q : Value → Shared → Prop}, Q (.ref (hp.push o1).objs.size) ⟨(hp.push o1).push o2, g, d, tk, os⟩ → wpAny (model pr ww) A' (pyIter v2) Q E ⟨hp.push o1, g, d, tk, os⟩ :=
      fun k => B2.iter pr ww _ _ ⟨hp.push o1, g, d, tk, os⟩ _ (B2.keeps _ _ y2 fun b o e => Heap.get?_push_of_some _ e) k
    wp_walk using g1, g2
    exact ⟨_, rfl, hy⟩
section
variable {prog : Program} {w : World} {A : Around} {E : Value → Shared → Prop} {s : Shared}
theorem tc_zipS (a b : Value) : checkTypeCall "zip" ⟨[a, b], [(Str.ofString "strict", .bool true)]⟩ = pure () := by kernel_rfl
theorem nc_zipS (a b : Value) : checkBuiltinCall "zip.__new__" ⟨[.type "zip", a, b], [(Str.ofString "strict", .bool true)]⟩ = pure () := by kernel_rfl
theorem ai_zipS (o a b : Value) : argsOk "object.__init__" ⟨[o, a, b], [(Str.ofString "strict", .bool true)]⟩ := by unfold argsOk; kernel_rfl
theorem zipS_begins {v1 v2 : Value} {o1 o2 : Obj} {H1 H2 : Heap → Prop} {Q : Value → Shared → Prop} (B1 : Begins v1 o1 H1) (B2 : Begins v2 o2 H2) (h1 : H1 s.heap) (h2 : H2 s.heap)
    (k : ∀ h', ZO true h' (s.heap.objs.size + 4) (s.heap.objs.size + 2) (s.heap.objs.size + 3) .none → IsTupOf2 h' (s.heap.objs.size + 2) (.ref s.heap.objs.size) (.ref (s.heap.objs.size + 1)) →
      IsTupOf2 h' (s.heap.objs.size + 3) .none .none → h'.get? s.heap.objs.size = some o1 → h'.get? (s.heap.objs.size + 1) = some o2 →
      (∀ c o, s.heap.get? c = some o → h'.get? c = some o) → Q (.ref (s.heap.objs.size + 4)) { s with heap := h' }) :
    wpAny (model prog w) A (call (.type "zip") [v1, v2] [(Str.ofString "strict", .bool true)]) Q E s := by
  refine callType_newKw F.called_zip (by decide) (tc_zipS _ _) (nc_zipS _ _) (fun o => ai_zipS o _ _) F.entry_zip_new (zipS_meets B1 B2) ⟨⟨h1, h2⟩, ?_⟩
  have c1 : (s.heap.push o1).objs.size = s.heap.objs.size + 1 := Heap.size_push ..
  have c2 : (zh1 s.heap o1 o2).objs.size = s.heap.objs.size + 2 := by rw [Heap.size_push, c1]
  have c3 : (zh2 s.heap o1 o2).objs.size = s.heap.objs.size + 3 := by rw [Heap.size_push, c2]
  have c4 : (zh3 s.heap o1 o2).objs.size = s.heap.objs.size + 4 := by rw [Heap.size_push, c3]
  have d4 : (zh4 s.heap o1 o2).get? (zh3 s.heap o1 o2).objs.size = _ := Heap.get?_push_size _ rfl
  have d3 : (zh4 s.heap o1 o2).get? (zh2 s.heap o1 o2).objs.size = _ := Heap.get?_push_of_some _ (Heap.get?_push_size _ rfl)
  have d2 : (zh4 s.heap o1 o2).get? (zh1 s.heap o1 o2).objs.size = _ := Heap.get?_push_of_some _ (Heap.get?_push_of_some _ (Heap.get?_push_size _ rfl))
  have d1 : (zh4 s.heap o1 o2).get? (s.heap.push o1).objs.size = some o2 := Heap.get?_push_of_some _ (Heap.get?_push_of_some _ (Heap.get?_push_of_some _ (Heap.get?_push_size _ B2.free)))
  have d0 : (zh4 s.heap o1 o2).get? s.heap.objs.size = some o1 := Heap.get?_push_of_some _ (Heap.get?_push_of_some _ (Heap.get?_push_of_some _ (Heap.get?_push_of_some _ (Heap.get?_push_size _ B1.free))))
  rw [c4, c3, c2] at d4
  rw [c3] at d3
  rw [c2, c1] at d2
  rw [c1] at d1
  show _ ∧ _
  rw [c4]
  exact ⟨⟨_, d4, rfl⟩, k _ d4 d2 d3 d0 d1 fun c o e => Heap.get?_push_of_some _ (Heap.get?_push_of_some _ (Heap.get?_push_of_some _ (Heap.get?_push_of_some _ (Heap.get?_push_of_some _ e))))⟩
theorem cw_tyKw {pos : Pos} {T : String} {env : Env} {e : Expr} {rest : List Expr} {kws : List Keyword} {Q : Value → Shared → Prop}
    (h : wpAny (model prog w) A (spliced (backTo pos (starEach (e :: rest) env))) (fun vs s1 => wpAny (model prog w) A (evalAll ((backToKw pos (keywordEach kws env)).map (·.2))) (fun ks s2 => wpAny (model prog w) A (call (.type T) vs (((backToKw pos (keywordEach kws env)).filterMap (·.1)).zip ks)) Q E s2) E s1) E s)
    (he : starEach (e :: rest) env = (false, eval e env) :: starEach rest env) (hp : (backTo pos (starEach (e :: rest) env)).any (·.1) = false) (ha : (backToKw pos (keywordEach kws env)).all (·.1.isSome) = true) (hk : (backToKw pos (keywordEach kws env)).any (·.1.isNone) = false) :
    wpAny (model prog w) A (callWith pos (.type T) [] (backTo pos (starEach (e :: rest) env)) (backToKw pos (keywordEach kws env))) Q E s := by
  have he' : backTo pos (starEach (e :: rest) env) = (false, eval e env) :: backTo pos (starEach rest env) := by rw [he]; rfl
  unfold callWith
  refine wpAny_bind (wpAny_holding (wpAny_mono (Q := fun a s1 => wpAny (model prog w) A (call (.type T) a.pos a.kw) Q E s1) ?_ (fun a s1 h1 => wpAny_bind (wpAny_standAt ?_)) fun _ _ x => x))
  · rw [he'] at h ⊢
    exact evalArgs_kwB ha h
  · simp only [hp, hk, Bool.or_false]
    refine wpAny_bind (wpAny_pure ?_)
    exact wpAny_bind (wpAny_mono h1 (fun r s2 hr => wpAny_bind (wpAny_holding (wpAny_point (wpAny_pure hr)))) fun _ _ x => x)
end
def iZ (q : Bool) (K : PySem.W.Frag) (ta : TA) : TI := fun σ H R => ta σ H fun vs H1 => ∃ (a b : Rw) (xs ys : List V), vs = [a.v, b.v] ∧ sqR K H1 a xs ∧ sqR K H1 b ys ∧ R (ItZ K q a b) H1
theorem beginsR (r : Rw) (u : Value) (ru : RelV r.v u) (its : Array Value) : ∃ o, Begins u o (fun h => obR h its r) ∧ ∀ (h : Heap) (it : Addr), h.get? it = some o → itR h it 0 r := by
  cases r with
  | lst a => cases ru; exact ⟨_, begins_list a its, fun h it e => ⟨_, e, rfl, rfl⟩⟩
  | tup a => cases ru; exact ⟨_, begins_tuple a its, fun h it e => ⟨_, e, rfl, rfl⟩⟩
  | txt z =>
    obtain ⟨t, rfl⟩ := ru
    have B := begins_text z t
    exact ⟨_, ⟨fun pr ww A E s Q _ q => B.iter pr ww A E s Q trivial q, fun h h' x _ => x, B.free⟩, fun h it e => ⟨t, _, e, rfl, rfl⟩⟩
theorem sepZ {n : Nat} {a b : Rw} (la : a.lt n) (lb : b.lt n) : ZipSep2 (n + 4) (n + 2) (n + 3) n (n + 1) (a.fp n) (b.fp (n + 1)) := by
  have f1 : ∃ l : List Addr, a.fp n = n :: l ∧ ∀ c ∈ l, c < n := by
    cases a with
    | lst c => exact ⟨[c], rfl, fun d hd => by rw [List.mem_singleton.mp hd]; exact la⟩
    | tup c => exact ⟨[c], rfl, fun d hd => by rw [List.mem_singleton.mp hd]; exact la⟩
    | txt z => exact ⟨[], rfl, fun d hd => (nomatch hd)⟩
  have f2 : ∃ l : List Addr, b.fp (n + 1) = (n + 1) :: l ∧ ∀ c ∈ l, c < n := by
    cases b with
    | lst c => exact ⟨[c], rfl, fun d hd => by rw [List.mem_singleton.mp hd]; exact lb⟩
    | tup c => exact ⟨[c], rfl, fun d hd => by rw [List.mem_singleton.mp hd]; exact lb⟩
    | txt z => exact ⟨[], rfl, fun d hd => (nomatch hd)⟩
  obtain ⟨l1, e1, h1⟩ := f1
  obtain ⟨l2, e2, h2⟩ := f2
  rw [e1, e2]
  exact zip_sep2 h1 h2
theorem apZ {n m : Nat} {a : Rw} (la : a.lt n) (h : n ≤ m) : ∀ x, a = .lst x ∨ a = .tup x → x ≠ m := by
  intro x hx
  rcases hx with rfl | rfl <;> exact Nat.ne_of_lt (Nat.lt_of_lt_of_le la h)
theorem pi_zipZ {X : Cx} {q : Bool} {e e2 : Expr} {ta : TA} {p pos tp kp cp : Pos} {el : List Expr} {kk ck : Nat} (hg : Gl X "zip") (hm : X.mg "zip" = none) (ha : PA X [e, e2] ta) (hs : [e, e2].all noStar = true) :
    PI X (.Tuple el kk tp) (.Call (.Name "zip" p) [e, e2] (if q = true then [⟨some "strict", .Constant (.bool true) ck cp, kp⟩] else []) pos) (iZ q X.K ta) := by
  have hs' := hs
  simp only [List.all_cons, Bool.and_eq_true] at hs'
  have st := star_cons (es := [e2]) hs'.1 X.env
  have sa := star_any hs X.env pos
  have sb := star_any (es := [e2]) (by simpa using hs'.2.1) X.env pos
  refine ⟨fun pins s σ H R I h => ?_⟩
  have fin : ∀ (s2 : Shared) (H1 : Hp) (a b : Rw) (h' : Heap), Inv X pins σ H1 s2 → a.lt s2.heap.objs.size → b.lt s2.heap.objs.size → ZO q h' (s2.heap.objs.size + 4) (s2.heap.objs.size + 2) (s2.heap.objs.size + 3) .none → IsTupOf2 h' (s2.heap.objs.size + 2) (.ref s2.heap.objs.size) (.ref (s2.heap.objs.size + 1)) →
      IsTupOf2 h' (s2.heap.objs.size + 3) .none .none → itR h' s2.heap.objs.size 0 a → itR h' (s2.heap.objs.size + 1) 0 b → (∀ c o, s2.heap.get? c = some o → h'.get? c = some o) → R (ItZ X.K q a b) H1 →
      wpAny (model X.prog X.w) X.A (pyIter (.ref (s2.heap.objs.size + 4))) (PIE X pins σ (.Tuple el kk tp) R) X.xe { s2 with heap := h' } := by
    intro s2 H1 a b h' I2 la lb zo ti to t1 t2 kp hR
    refine zip_self (s := { s2 with heap := h' }) zo ?_
    have I3 := I2.kept (h' := h') (t' := s2.toks) kp
    refine ⟨s2.heap.objs.size + 4, [s2.heap.objs.size + 4, s2.heap.objs.size + 2, s2.heap.objs.size + 3, s2.heap.objs.size, s2.heap.objs.size + 1], _, _, H1, rfl, I3, turnZ (sepZ la lb) (apZ la (Nat.le_refl _)) (apZ lb (Nat.le_succ _)), ⟨zo, ti, ⟨_, _, to⟩, t1, t2⟩, fun c hcm => ?_, hR⟩
    have hle : s2.heap.objs.size ≤ c := by
      rcases (show c = s2.heap.objs.size + 4 ∨ c = s2.heap.objs.size + 2 ∨ c = s2.heap.objs.size + 3 ∨ c = s2.heap.objs.size ∨ c = s2.heap.objs.size + 1 by simpa using hcm) with r | r | r | r | r <;> (rw [r]; first | exact Nat.le_refl _ | exact Nat.le_add_right _ _)
    exact I2.fpOk hle (I2.hok.fresh hle)
  cases q with
  | false =>
    refine Call_ (ld_blt I hg hm boot_zip (callWith_type1 (thn (ha.run pos pins s σ H _ I h) fun us s1 ⟨vs, H1, I1, r1, q1⟩ => ?_) st sb))
    obtain ⟨a, b, xs, ys, rfl, hx, hy, hR⟩ := q1
    obtain ⟨u1, u2, rfl, ru1, ru2⟩ := vals2 r1
    obtain ⟨its1, p1, _, la, _, _⟩ := inv_sqR I1 hx
    obtain ⟨its2, p2, _, lb, _, _⟩ := inv_sqR I1 hy
    obtain ⟨o1, B1, t1⟩ := beginsR a u1 ru1 its1
    obtain ⟨o2, B2, t2⟩ := beginsR b u2 ru2 its2
    exact zip_begins2 B1 B2 p1 p2 fun h' zo ti to d0 d1 _ kp => fin s1 H1 a b h' I1 la lb zo ti to (t1 _ _ d0) (t2 _ _ d1) kp hR
  | true =>
    refine wpAny_Call_Name_kw (ld_blt I hg hm boot_zip (cw_tyKw (thn (ha.run pos pins s σ H _ I h) fun us s1 ⟨vs, H1, I1, r1, q1⟩ => ?_) st sa (by rfl) (by rfl)))
    obtain ⟨a, b, xs, ys, rfl, hx, hy, hR⟩ := q1
    obtain ⟨u1, u2, rfl, ru1, ru2⟩ := vals2 r1
    refine kws_cons (thn (pe_bl.run pins s1 σ H1 (fun v H2 => v = .bl true ∧ H2 = H1) I1 ⟨rfl, rfl⟩) fun v s2 ⟨x, H2, I2, r2, e1, e2⟩ => kws_nil ?_)
    subst e1 e2
    cases r2
    show wpAny _ _ (call (.type "zip") [u1, u2] [(Str.ofString "strict", .bool true)]) _ _ s2
    obtain ⟨its1, p1, _, la, _, _⟩ := inv_sqR I2 hx
    obtain ⟨its2, p2, _, lb, _, _⟩ := inv_sqR I2 hy
    obtain ⟨o1, B1, t1⟩ := beginsR a u1 ru1 its1
    obtain ⟨o2, B2, t2⟩ := beginsR b u2 ru2 its2
    exact zipS_begins B1 B2 p1 p2 fun h' zo ti to d0 d1 kp => fin s2 H2 a b h' I2 la lb zo ti to (t1 _ _ d0) (t2 _ _ d1) kp hR
end TW
namespace TW
open PySem PySem.Spec PyProof.Rows L2
theorem pi_weak {X : Cx} {tg it : Expr} {w w' : TI} (h : PI X tg it w) (k : ∀ σ H R, w' σ H R → w σ H R) : PI X tg it w' := ⟨fun pins s σ H R I q => h.run pins s σ H R I (k σ H R q)⟩
/-- a row that stays while the pins stand -/
def RowAt (K : PySem.W.Frag) (m0 : Mp) (H0 : Hp) (xs : List D) (ps : List (Nat × List D)) (k : Bool) (a : Addr) : Prop :=
  ∀ m H st, (∃ t, m.ad = m0.ad ++ t) → Same (hm m0 H0) (hm m H) → Rel K m st H → pinOk ps st = true → ∃ vs, sqK k K H a vs ∧ RepDs K (hm m H) xs vs
theorem rowV_at {K : PySem.W.Frag} {m : Mp} {H : Hp} {st : Sto} {x : Vv} {v : V} {xs : List D} {ps : List (Nat × List D)} (rel : Rel K m st H) (r : RepV K m H x v) (e : rowV x st = some (xs, ps)) : ∃ k a, v = .ref a ∧ RowAt K m H xs ps k a ∧ pinOk ps st = true := by
  unfold rowV at e
  split at e
  · cases e
    simp only [RepV, RepD] at r
    obtain ⟨a, vs, rfl, q1, _, q2⟩ := r
    exact ⟨false, a, rfl, fun m' H' st' _ x _ _ => ⟨vs, hm_same.seq (x.seq q1), q2.mono x⟩, rfl⟩
  · cases e
    simp only [RepV, RepD] at r
    obtain ⟨a, vs, rfl, q1, _, q2, _⟩ := r
    exact ⟨true, a, rfl, fun m' H' st' _ x _ _ => ⟨vs, same_tup hm_same (same_tup x q1), q2.mono x⟩, rfl⟩
  · split at e
    · rename_i ys hy
      cases e
      obtain ⟨a, q1, rfl⟩ := r
      refine ⟨false, a, rfl, fun m' H' st' t x rel' k => ?_, ?_⟩
      · obtain ⟨vs, h1, h2⟩ := pin_rep q1 t rel' k
        exact ⟨vs, sql_of h1, h2⟩
      · simp only [pinOk, List.all_cons, List.all_nil, Bool.and_true, hy]
        exact sameDs_refl _
    · cases e
  · cases e
/-- .. for a zip -/
def RowR (K : PySem.W.Frag) (m0 : Mp) (H0 : Hp) (xs : List D) (ps : List (Nat × List D)) (r : Rw) : Prop :=
  ∀ m H st, (∃ t, m.ad = m0.ad ++ t) → Same (hm m0 H0) (hm m H) → Rel K m st H → pinOk ps st = true → ∃ vs, sqR K H r vs ∧ RepDs K (hm m H) xs vs
theorem reps_txt {K : PySem.W.Frag} {H : Hp} : ∀ cs : List Nat, (∀ c ∈ cs, c < 0x110000) → RepDs K H (cs.map fun c => D.str ⟨#[c]⟩) (cs.map fun c => V.str ⟨#[c]⟩)
  | [], _ => .nil
  | c :: cs, h => by
    refine .cons ?_ (reps_txt cs fun d hd => h d (List.mem_cons_of_mem _ hd))
    simp only [RepD]
    refine ⟨trivial, by show 1 ≤ sizeLine; decide, ?_⟩
    rw [strOk_iff]
    intro d hd
    have : d = c := by simpa using hd
    subst this
    exact h _ (List.mem_cons_self ..)
theorem rowT_at {K : PySem.W.Frag} {m : Mp} {H : Hp} {st : Sto} {x : Vv} {v : V} {xs : List D} {ps : List (Nat × List D)} (rel : Rel K m st H) (r : RepV K m H x v) (e : rowT x st = some (xs, ps)) : ∃ a : Rw, v = a.v ∧ RowR K m H xs ps a ∧ pinOk ps st = true := by
  unfold rowT at e
  split at e
  · cases e
    simp only [RepV, RepD] at r
    obtain ⟨rfl, _, o⟩ := r
    exact ⟨.txt _, rfl, fun m' H' st' _ _ _ _ => ⟨_, rfl, reps_txt _ (strOk_iff.mp o)⟩, rfl⟩
  · obtain ⟨k, a, rfl, h, p⟩ := rowV_at rel r e
    cases k with
    | false => exact ⟨.lst a, rfl, h, p⟩
    | true => exact ⟨.tup a, rfl, h, p⟩
theorem pin_app {ps rs : List (Nat × List D)} {st : Sto} (h : pinOk (ps ++ rs) st = true) : pinOk ps st = true ∧ pinOk rs st = true := by
  unfold pinOk at *
  rw [List.all_append, Bool.and_eq_true] at h
  exact h
theorem wk_zip {K : PySem.W.Frag} {m0 : Mp} {H0 : Hp} {q : Bool} {a b : Rw} {xs ys : List D} {ps rs : List (Nat × List D)} (h1 : RowR K m0 H0 xs ps a) (h2 : RowR K m0 H0 ys rs b) (hl : q = true → xs.length = ys.length) :
    Wk K m0 H0 ⟨zipD xs ys, ps ++ rs⟩ (ItZ K q a b) where
  stop m H st t x rel k := by
    obtain ⟨us, s1, r1⟩ := h1 m H st t.1 x rel (pin_app k).1
    obtain ⟨ws, s2, r2⟩ := h2 m H st t.1 x rel (pin_app k).2
    have c1 := r1.length
    have c2 := r2.length
    have c3 := zipD_len xs ys
    refine ⟨us, ws, s1, s2, by simp only [c3]; omega, by simp only [c3]; omega, ?_⟩
    simp only [c3]
    cases q with
    | true => have := hl rfl; simp only [if_true]; omega
    | false => simp only [Bool.false_eq_true, if_false]; omega
  go m H st t x rel k i d hd := by
    obtain ⟨us, s1, r1⟩ := h1 m H st t.1 x rel (pin_app k).1
    obtain ⟨ws, s2, r2⟩ := h2 m H st t.1 x rel (pin_app k).2
    obtain ⟨u, v, e1, e2, rfl⟩ := zipD_get xs ys i d hd
    obtain ⟨u', f1, _⟩ := r1.get e1
    obtain ⟨v', f2, _⟩ := r2.get e2
    exact ⟨us, ws, u', v', s1, s2, f1, f2⟩
  yld m H st t x rel k i d y H' hd hy := by
    obtain ⟨us, s1, r1⟩ := h1 m H st t.1 x rel (pin_app k).1
    obtain ⟨ws, s2, r2⟩ := h2 m H st t.1 x rel (pin_app k).2
    obtain ⟨u, v, e1, e2, rfl⟩ := zipD_get xs ys i d hd
    obtain ⟨T, x', y', rfl, n, rfl, g1, g2⟩ := hy
    obtain ⟨u', f1, ru⟩ := r1.get e1
    obtain ⟨v', f2, rv⟩ := r2.get e2
    have z1 := g1 us s1
    have z2 := g2 ws s2
    rw [f1] at z1
    rw [f2] at z2
    cases z1
    cases z2
    exact pair_rep rel ru rv n
variable {X : Cx} {g : Gx} {pos : Pos}
theorem li_zip (hK : g.K = X.K) {q : Bool} {e e2 : Expr} {fr : En → Sto → R (List Vv)} {p tp kp cp : Pos} {el : List Expr} {kk ck : Nat} (hg : Gl X "zip") (hm : X.mg "zip" = none) (ha : PA X [e, e2] (LA g fr)) (hs : [e, e2].all noStar = true) :
    PI X (.Tuple el kk tp) (.Call (.Name "zip" p) [e, e2] (if q = true then [⟨some "strict", .Constant (.bool true) ck cp, kp⟩] else []) pos) (LI g fun en st => (fr en st).bind (kZip q)) := by
  refine pi_weak (pi_zipZ hg hm ha hs) ?_
  rintro σ H R ⟨m, en, st, rel, re, out⟩
  refine ⟨m, en, st, rel, re, Out.bind out fun vs st1 m1 H1 ws e1 x1 l1 rx o1 => ?_⟩
  unfold kZip at o1
  split at o1
  · rename_i x y
    split at o1
    · rename_i xs ps ys rs h1 h2
      split at o1
      · rename_i hl
        obtain ⟨v, w, rfl, rv, rw'⟩ := p2 rx
        obtain ⟨a, rfl, A1, P1⟩ := rowT_at l1 rv h1
        obtain ⟨b, rfl, A2, P2⟩ := rowT_at l1 rw' h2
        obtain ⟨us, s1, _⟩ := A1 m1 H1 st1 ⟨[], by simp⟩ (.refl _) l1 P1
        obtain ⟨ws, s2, _⟩ := A2 m1 H1 st1 ⟨[], by simp⟩ (.refl _) l1 P2
        rw [← hK]
        exact ⟨a, b, us, ws, rfl, s1, s2, o1 m1 H1 _ .refl l1 (wk_zip A1 A2 hl)⟩
      · exact o1.elim
    · exact o1.elim
  · exact o1.elim
end TW
namespace TW
open PySem PySem.Spec PyProof.Rows L2
section
variable {prog : Program} {w : World} {A : Around} {E : Value → Shared → Prop} {s : Shared}
theorem walksK (k : Bool) (hh : A.handled = none) (it a : Addr) (ne : a ≠ it) (its : Array Value) : Walks prog w A it [it, a] [it] its.size (fun i v => its[i]? = some v) (fun i h => itSt k h it a i ∧ obK k h a its) := by
  cases k
  · exact Walks.list hh it a ne its
  · exact Walks.tuple hh it a ne its
theorem itSt.ty {k : Bool} {u : Shared} {it a : Addr} {i : Nat} (t : itSt k u.heap it a i) : u.TypeIs (.ref it) (if k = true then "tuple_iterator" else "list_iterator") := by
  cases k
  · exact Heap.IsListIter.typeIs t
  · exact Heap.IsTupleIter.typeIs t
theorem iterK {k : Bool} {a : Addr} {its : Array Value} {Q : Value → Shared → Prop} (ob : obK k s.heap a its) (q : ∀ h', itSt k h' s.heap.objs.size a 0 → (∀ b o, s.heap.get? b = some o → h'.get? b = some o) → Q (.ref s.heap.objs.size) { s with heap := h' }) : wpAny (model prog w) A (pyIter (.ref a)) Q E s := by
  cases k
  · exact wpAny_pyIter_list ob (q _ ⟨_, Heap.get?_push_size _ rfl, rfl, rfl⟩ fun b o e => Heap.get?_push_of_some _ e)
  · exact iter_tuple ob (q _ ⟨_, Heap.get?_push_size _ rfl, rfl, rfl⟩ fun b o e => Heap.get?_push_of_some _ e)
theorem obK.at {k : Bool} {h h' : Heap} {a : Addr} {its : Array Value} (ob : obK k h a its) (e : ∀ o, h.get? a = some o → h'.get? a = some o) : obK k h' a its := by
  cases k
  · exact Heap.IsList.at ob e
  · exact Heap.IsTuple.at ob e
theorem drawsK {k : Bool} {it a : Addr} {its : Array Value} (ne : a ≠ it) (n : Nat) {Q : List Value → Shared → Prop} (t : itSt k s.heap it a 0) (ob : obK k s.heap a its) (hn : n ≤ its.size)
    (q : ∀ h', itSt k h' it a n → Heap.SameBut it s.heap h' → Q (its.toList.take n) { s with heap := h' }) : wpAny (model prog w) A (draw (.ref it) n) Q E s := by
  cases k
  · exact PySem.W.kun_draw ne n 0 s Q t ob (by omega) fun h' t' e => by rw [Nat.zero_add] at t'; have := q h' t' e; simpa using this
  · exact draw_tuple ne n 0 s Q t ob (by omega) fun h' t' e => by rw [Nat.zero_add] at t'; have := q h' t' e; simpa using this
theorem iterableK {k : Bool} {a : Addr} {its : Array Value} {Q : Bool → Shared → Prop} (ob : obK k s.heap a its) (q : Q false s) : wpAny (model prog w) A (notIterableAtAll (.ref a)) Q E s := by
  unfold notIterableAtAll
  cases k
  · exact wpAny_bind (wpAny_specialOf (Heap.IsList.typeIs ob) slot_list_iter.lookup (wpAny_pure q))
  · exact wpAny_bind (wpAny_specialOf (Heap.IsTuple.typeIs ob) slot_tuple_iter.lookup (wpAny_pure q))
/-- the first n items, and the rest as a new list -/
theorem star_items {k : Bool} {l : Addr} {its : Array Value} {n : Nat} {Q : List Value → Shared → Prop} (hh : A.handled = none) (ob : obK k s.heap l its) (lt : l < s.heap.objs.size) (hn : n ≤ its.size) (hz : its.size ≤ sizeLine)
    (q : ∀ (h' : Heap) (tk : Nat), (∀ b o, s.heap.get? b = some o → h'.get? b = some o) → Q (its.toList.take n ++ [.ref h'.objs.size]) { s with heap := h'.push { cls := .type "list", data := .seq (its.toList.drop n).toArray }, toks := tk }) :
    wpAny (model prog w) A (unpackItems (.ref l) (n + 1) (some n)) Q E s := by
  have ne : l ≠ s.heap.objs.size := Nat.ne_of_lt lt
  have fl : (its.toList.take n).length = n := by rw [List.length_take, Array.length_toList]; omega
  unfold unpackItems
  refine wpAny_bind (iterableK ob ?_)
  rw [if_neg (by simp)]
  refine wpAny_bind (wpAny_holding (iterK ob fun h1 t1 e1 => ?_))
  have ob1 : obK k h1 l its := ob.at fun o => e1 l o
  refine wpAny_bind (wpAny_holding (drawsK (s := { s with heap := h1 }) ne n t1 ob1 hn fun h2 t2 e2 => ?_))
  have ob2 : obK k h2 l its := ob1.at fun o x => e2.extBut l o ne x
  have s2 : s.heap.objs.size < h2.objs.size := by obtain ⟨o, ho, _⟩ := t2.obj; exact Heap.lt_size ho
  rw [if_neg (by rw [fl]; omega)]
  refine wpAny_bind (wpAny_holding (PySem.W.kun_collect (s := { s with heap := h2 }) (ax := l) (T := if k = true then "tuple_iterator" else "list_iterator") (by cases k <;> simp) (walksK (A := A.in1) k hh s.heap.objs.size l ne its) (fun i u st => st.1.ty) hn ⟨t2, ob2⟩ s2 (Nat.lt_trans lt s2) (fun h3 tk e3 => ?_) hz))
  have up : ∀ b o, s.heap.get? b = some o → h3.get? b = some o := fun b o x => e3 b o (Nat.ne_of_lt (Heap.lt_size x)) (e2.extBut b o (Nat.ne_of_lt (Heap.lt_size x)) (e1 b o x))
  have m0 : n + 1 - 1 - n = 0 := by omega
  simp only [m0, Nat.not_lt_zero, if_false, Nat.sub_zero, List.take_length, List.drop_length, List.append_nil]
  refine wpAny_bind (wpAny_newList ?_ (by rw [List.length_drop, Array.length_toList]; omega))
  exact wpAny_pure (q h3 tk up)
end
/-! a, *b = row -/
def gStar (K : PySem.W.Frag) (n : Nat) (t : TGs) : TG := fun v σ H Q => ∃ k a xs, v = .ref a ∧ sqK k K H a xs ∧ n ≤ xs.length ∧ xs.length ≤ sizeLine ∧ ∀ p, H p = none → t (xs.take n ++ [.ref p]) σ (upd H p (.lst (xs.drop n))) Q
theorem pg_star {X : Cx} {es : List Expr} {k n : Nat} {t : TGs} {pos : Pos} (hc : X.calm = true) (h : PGs X es t) (hn : (assignEach es X.env).length = n + 1) (hs : (assignEach es X.env).findIdx? (·.1) = some n) : PG X (.Tuple es k pos) (gStar X.K n t) := by
  refine ⟨fun pins s σ H v u Q I r hw => ?_⟩
  obtain ⟨kd, a, xs, rfl, hq, hl, hz, hw⟩ := hw
  cases r
  obtain ⟨its, rv, ob, lt⟩ := inv_sq I hq
  have len := rv.length
  rw [assign_Tuple]
  refine wpAny_bind (wpAny_standAt ?_)
  unfold unpack
  rw [hn, hs]
  refine wpAny_bind (wpAny_holding (star_items (I.ok.hd hc) ob lt (by simpa [← len] using hl) (by simpa [← len] using hz) fun h' tk up => ?_))
  have I1 : Inv X pins σ H { s with heap := h', toks := tk } := I.kept up
  have hf : H h'.objs.size = none := I1.hok.fresh (Nat.le_refl _)
  have new : ObjOk X.prog X.w (upd H h'.objs.size (.lst (xs.drop n))) (h'.push { cls := .type "list", data := .seq (its.toArray.toList.drop n).toArray }) h'.objs.size (.lst (xs.drop n)) := by
    refine ⟨by rw [List.length_drop]; omega, its.drop n, 0, rv.drop n, ?_⟩
    simpa using Heap.get?_push_size h' (o := { cls := .type "list", data := .seq (its.toArray.toList.drop n).toArray }) rfl
  have I2 := I1.laid (t' := tk) (h' := h'.push { cls := .type "list", data := .seq (its.toArray.toList.drop n).toArray }) (fun b u e => Heap.get?_push_of_some _ e) (Nat.le_refl _) new
  refine h.run pins _ σ _ (xs.take n ++ [.ref h'.objs.size]) _ Q I2 ?_ (hw _ hf)
  simp only [List.toList_toArray]
  exact (rv.take n).append (.cons rfl .nil)
theorem rowV_len {K : PySem.W.Frag} {m : Mp} {H : Hp} {st : Sto} {x : Vv} {v : V} {xs : List D} {ps : List (Nat × List D)} (rel : Rel K m st H) (r : RepV K m H x v) (e : rowV x st = some (xs, ps)) : xs.length ≤ sizeLine := by
  unfold rowV at e
  split at e
  · cases e
    simp only [RepV, RepD] at r
    obtain ⟨a, vs, rfl, q1, l, q2⟩ := r
    exact l
  · cases e
    simp only [RepV, RepD] at r
    obtain ⟨a, vs, rfl, q1, l, q2⟩ := r
    exact l
  · split at e
    · rename_i ys hy
      cases e
      obtain ⟨a, q1, rfl⟩ := r
      obtain ⟨u, h1, h2⟩ := rel.get _ _ a hy q1
      obtain ⟨vs, rfl, h3, l⟩ := h2
      exact l
    · cases e
  · cases e
theorem pgs_starred {X : Cx} {t : Expr} {p : Pos} {T : TGs} (hn : noStar t = true) (h : PGs X [t] T) : PGs X [.Starred t p] T := by
  have e : (assignEach [.Starred t p] X.env).map (·.2) = (assignEach [t] X.env).map (·.2) := by
    rw [assign_cons (es := []) hn]
    rfl
  refine ⟨fun pins s σ H vs us Q I r q => ?_⟩
  rw [e]
  exact h.run pins s σ H vs us Q I r q
/-- names, the last one starred -/
def starNames : List Expr → Option (List Str × Str)
  | [.Starred (.Name y _) _] => some ([], y)
  | .Name x _ :: es => match starNames es with | some r => some (x :: r.1, r.2) | none => none
  | _ => none
def gNs : List Nat → TGs
  | [], vs, σ, H, Q => vs = [] ∧ Q σ H
  | i :: is, vs, σ, H, Q => ∃ v r, vs = v :: r ∧ gNs is r (σ.set i (some v)) H Q
structure Slot1 (X : Cx) (x : Str) (i : Nat) : Prop where
  ix : X.N[i]? = some x
  lc : L2.Loc X.env.scope x
  fn : X.fn x = true ∨ X.env.scope.names.lookup x = some .local
theorem pgs_names {X : Cx} (hN : X.N.Nodup) : ∀ {es : List Expr} {xs : List Str} {y : Str} {is : List Nat} {j : Nat}, starNames es = some (xs, y) → Paired (Slot1 X) xs is → Slot1 X y j → PGs X es (gNs (is ++ [j])) ∧ (assignEach es X.env).length = xs.length + 1 ∧ (assignEach es X.env).findIdx? (·.1) = some xs.length
  | [], _, _, _, _, h, _, _ => by simp [starNames] at h
  | e :: es, xs, y, is, j, h, hs, hy => by
    unfold starNames at h
    split at h
    · rename_i y' p q heq
      cases heq
      cases h
      cases hs
      refine ⟨pgs_starred rfl (pgs_weak (pgs_cons (pg_name hN hy.ix hy.lc hy.fn) pgs_nil) ?_), rfl, rfl⟩
      rintro v σ H Q ⟨v', r, rfl, rfl, h⟩
      exact ⟨v', [], rfl, rfl, h⟩
    · rename_i x p es' heq
      cases heq
      split at h
      · rename_i r hr
        cases h
        cases hs with
        | cons h1 h2 =>
          obtain ⟨k1, k2, k3⟩ := pgs_names hN (show starNames es = some (r.1, r.2) from hr) h2 hy
          refine ⟨pgs_weak (pgs_cons (pg_name hN h1.ix h1.lc h1.fn) k1) ?_, by simp [assignEach, k2], by simp [assignEach, List.findIdx?_cons, k3]⟩
          rintro v σ H Q ⟨v', r', rfl, h⟩
          exact ⟨v', r', rfl, h⟩
      · cases h
    · cases h
theorem gNs_set {g : Gx} {own : Nat → Prop} {m : Mp} {H : Hp} {Q : L2.St → Hp → Prop} {p : Addr} {j : Nat} {x : Vv} {st : Sto} : ∀ {is : List Nat} {ds : List D} {vs : List V} {en en' : En} {σ : L2.St}, Rel g.K m st H → RepE g.K m H en σ → RepDs g.K (hm m H) ds vs → setAll is (ds.map Vv.d) en = some en' → RepV g.K m H x (.ref p) →
    (∀ i ∈ is, own i) → own j → OutG g own σ m H Q (.ok (en'.set j (some x)) st) → gNs (is ++ [j]) (vs ++ [.ref p]) σ H Q
  | [], ds, vs, en, en', σ, rel, re, rd, hs, rx, ho, hj, out => by
    cases ds with
    | nil =>
      simp only [RepDs] at rd
      subst rd
      simp only [List.map_nil, setAll, Option.some.injEq] at hs
      subst hs
      refine ⟨_, [], rfl, rfl, out m H _ .refl rel (re.set rx j) ⟨by simp, fun k hk => ?_⟩⟩
      have ne : j ≠ k := fun e => hk (by rw [← e]; exact hj)
      exact List.getElem?_set_ne ne
    | cons d ds => simp [setAll] at hs
  | i :: is, ds, vs, en, en', σ, rel, re, rd, hs, rx, ho, hj, out => by
    cases ds with
    | nil => simp [setAll] at hs
    | cons d ds =>
      obtain ⟨v, r, rfl, rv, rr⟩ := rd.uncons
      simp only [List.map_cons, setAll] at hs
      refine ⟨v, r ++ [.ref p], rfl, gNs_set rel (re.set (x := .d d) rv i) rr hs rx (fun k hk => ho k (List.mem_cons_of_mem _ hk)) hj (OutG.slots ⟨by simp, fun k hk => ?_⟩ out)⟩
      have ne : i ≠ k := fun e => hk (by rw [← e]; exact ho i (List.mem_cons_self ..))
      exact List.getElem?_set_ne ne
theorem lg_star {X : Cx} {g : Gx} {own : Nat → Prop} (hK : g.K = X.K) (hc : X.calm = true) (hN : X.N.Nodup) {es : List Expr} {kk : Nat} {pos : Pos} {xs : List Str} {y : Str} {is : List Nat} {j : Nat} (nw : Bool) (h : starNames es = some (xs, y)) (hs : Paired (Slot1 X) xs is) (hy : Slot1 X y j)
    (ho : ∀ i ∈ is, own i) (hj : own j) : PG X (.Tuple es kk pos) (LG g own (starV is j nw)) := by
  obtain ⟨k1, k2, k3⟩ := pgs_names hN h hs hy
  refine pg_weak (pg_star hc k1 k2 k3) ?_
  rintro v σ H Q ⟨m, en, st, x, rel, re, rx, out⟩
  unfold starV at out
  split at out
  · rename_i ds ps hr
    split at out
    · rename_i hl
      split at out
      · rename_i en' he
        obtain ⟨k, a, rfl, A1, P1⟩ := rowV_at rel rx hr
        obtain ⟨vs, s1, r1⟩ := A1 m H st ⟨[], by simp⟩ (.refl _) rel P1
        have len := r1.length
        have hln := Paired.length hs
        have hsz : vs.length ≤ sizeLine := by
          have := rowV_len rel rx hr
          omega
        rw [← hK]
        refine ⟨k, a, vs, rfl, s1, by omega, hsz, fun p np => ?_⟩
        rw [hln]
        cases nw with
        | true =>
          simp only [if_true] at out
          have q : RepO g.K (hm m H) (.lst (ds.drop is.length)) (.lst (vs.drop is.length)) := ⟨_, rfl, r1.drop _, by rw [List.length_drop]; omega⟩
          obtain ⟨rel2, e2⟩ := rel.new np q
          have : RepV g.K ⟨m.ad ++ [p], m.hid⟩ (upd H p (.lst (vs.drop is.length))) (.ref st.length) (.ref p) := ⟨p, by rw [← rel.len]; simp, rfl⟩
          exact gNs_set rel2 (re.ext e2) ((r1.take _).mono e2.same) he this ho hj (OutG.ext e2 out)
        | false =>
          simp only [Bool.false_eq_true, if_false] at out
          have rel2 := rel.fresh (o := .lst (vs.drop is.length)) np
          have e2 := rel.ext_fresh (o := .lst (vs.drop is.length)) np
          have : RepV g.K m (upd H p (.lst (vs.drop is.length))) (.d (.lst (ds.drop is.length))) (.ref p) := by
            simp only [RepV, RepD]
            exact ⟨p, vs.drop is.length, rfl, sql_of (hm_some.mpr ⟨rel.fresh_ne np, upd_same⟩), by rw [List.length_drop]; omega, (r1.drop _).mono e2.same⟩
          exact gNs_set rel2 (re.ext e2) ((r1.take _).mono e2.same) he this ho hj (OutG.ext e2 out)
      · exact out.elim
    · exact out.elim
  · exact out.elim
end TW
namespace TW
open PySem PySem.Spec PyProof.Rows L2
/-! ### tables of the module by texts -/
def TabOk (K : PySem.W.Frag) (w : World) (mg : Str → Option Value) (x : Str) (t : List (Str × D)) : Prop := ∃ d es n, mg x = some (.ref d) ∧ KDict K w d es n ∧
  ∀ z : Str, (t.lookup z = none ∧ PySem.W.nsIn K d z = some none) ∨ ∃ dd u v, t.lookup z = some dd ∧ PySem.W.nsIn K d z = some (some u) ∧ RelV v u ∧ ∀ H, RepD K H dd v
variable {X : Cx} {g : Gx} {pos : Pos} {a : Expr} {fa : En → Sto → R Vv}
def rTin (K : PySem.W.Frag) (neg : Bool) (t : List (Str × D)) : R2 := fun x y H Q => ∃ z, x = .str z ∧ Q (.bl (if neg = true then !(t.lookup z).isSome else (t.lookup z).isSome)) H
theorem tin_op {x : Str} {t : List (Str × D)} (neg : Bool) (h : TabOk X.K X.w X.mg x t) : ∃ d, X.mg x = some (.ref d) ∧ OpR X (compareOp (if neg = true then .NotIn else .In)) (fun u y H Q => y = .ref d ∧ rTin X.K neg t u y H Q) := by
  obtain ⟨d, es, n, h1, D, h2⟩ := h
  refine ⟨d, h1, ?_⟩
  intro pins s σ H u y v w Q I rx ry q
  obtain ⟨rfl, z, rfl, q⟩ := q
  rcases h2 z with ⟨e1, e2⟩ | ⟨dd, u, v', e1, e2, _⟩
  · cases neg
    · exact op_in_kd D pins s σ H _ _ v w Q I rx ry ⟨z, none, rfl, rfl, e2, by simpa [e1] using q⟩
    · exact op_notIn_kd D pins s σ H _ _ v w Q I rx ry ⟨z, none, rfl, rfl, e2, by simpa [e1] using q⟩
  · cases neg
    · exact op_in_kd D pins s σ H _ _ v w Q I rx ry ⟨z, some u, rfl, rfl, e2, by simpa [e1] using q⟩
    · exact op_notIn_kd D pins s σ H _ _ v w Q I rx ry ⟨z, some u, rfl, rfl, e2, by simpa [e1] using q⟩
theorem out_tin {m : Mp} {H : Hp} {σ : L2.St} {Q : VK} {neg : Bool} {t : List (Str × D)} {x : Vv} {st : Sto} {v : V} (rel : Rel g.K m st H) (rx : RepV g.K m H x v) (o : Out g m H σ (RepV g.K) Q (kTin neg t x st)) (y : V) (K : PySem.W.Frag) : rTin K neg t v y H Q := by
  unfold kTin at o
  split at o
  · rename_i z
    simp only [RepV, RepD] at rx
    exact ⟨z, rx.1, o m H _ .refl rel (by simp only [RepV, RepD])⟩
  · exact o.elim
theorem le_tin {x : Str} {t : List (Str × D)} {p : Pos} (neg : Bool) (h : TabOk X.K X.w X.mg x t) (hg : Gl X x) (hd : (x == ("__debug__" : Str)) = false) (ha : PE X a (LE g fa)) (hm : behindInMarks (if neg = true then .NotIn else .In) (.Name x p) = false) :
    PE X (.Compare a [if neg = true then .NotIn else .In] [.Name x p] pos) (LE g fun en st => (fa en st).bind (kTin neg t)) := by
  obtain ⟨d, h1, op⟩ := tin_op neg h
  refine pe_weak (pe_cmpR op ha (pe_glob (v := .ref d) hg h1 rfl hd) hm) ?_
  rintro σ H Q ⟨m, en, st, rel, re, out⟩
  exact ⟨m, en, st, rel, re, Out.bind out fun y st1 m1 H1 v e1 x1 l1 rx o1 => ⟨rfl, out_tin l1 rx o1 _ _⟩⟩
theorem lt_tin {x : Str} {t : List (Str × D)} {p : Pos} (neg : Bool) (h : TabOk X.K X.w X.mg x t) (hg : Gl X x) (hd : (x == ("__debug__" : Str)) = false) (ha : PE X a (LE g fa)) (hm : behindInMarks (if neg = true then .NotIn else .In) (.Name x p) = false) :
    PT X (.Compare a [if neg = true then .NotIn else .In] [.Name x p] pos) (LT g (tt fun en st => (fa en st).bind (kTin neg t))) := by
  obtain ⟨d, h1, op⟩ := tin_op neg h
  refine pt_weak (pt_cmpR op ha (pe_glob (v := .ref d) hg h1 rfl hd) hm) ?_
  rintro σ H Q ⟨m, en, st, rel, re, out⟩
  unfold tt at out
  simp only [bind_assoc] at out
  refine ⟨m, en, st, rel, re, Out.bind out fun y st1 m1 H1 v e1 x1 l1 rx o1 => ⟨rfl, ?_⟩⟩
  unfold kTin at o1
  split at o1
  · rename_i z
    simp only [RepV, RepD] at rx
    exact ⟨z, rx.1, _, rfl, o1 m1 H1 _ .refl l1 rfl⟩
  · exact o1.elim
theorem le_tget {x : Str} {t : List (Str × D)} {p : Pos} (hK : g.K = X.K) (h : TabOk X.K X.w X.mg x t) (hg : Gl X x) (hd : (x == ("__debug__" : Str)) = false) (ha : PE X a (LE g fa)) (hs : NoSl a) :
    PE X (.Subscript (.Name x p) a pos) (LE g fun en st => (fa en st).bind (kTget t)) := by
  obtain ⟨d, es, n, h1, D, h2⟩ := h
  refine ⟨fun pins s σ H Q I h => ?_⟩
  obtain ⟨m, en, st, rel, re, out⟩ := h
  refine subD_of PySem.F.slot_dict_getitem.lookup hs (thn ((pe_glob (v := .ref d) (pos := p) hg h1 rfl hd).run pins s σ H (fun v H' => v = .ref d ∧ H' = H) I ⟨rfl, rfl⟩) fun u s1 ⟨x', H1, I1, rx, e1, e2⟩ => ?_)
  subst e1 e2
  cases rx
  have R : LE g fa σ H1 (fun v H2 => ∃ z dd m2 st2, v = .str z ∧ t.lookup z = some dd ∧ Rel g.K m2 st2 H2 ∧ Out g m2 H2 σ (RepV g.K) Q (.ok (.d dd) st2)) := by
    refine ⟨m, en, st, rel, re, Out.bind out fun y st1 m1 H1 v e1 x1 l1 rx o1 => ?_⟩
    unfold kTget at o1
    split at o1
    · rename_i z
      simp only [RepV, RepD] at rx
      unfold give at o1
      split at o1
      · rename_i dd hdd
        exact ⟨z, dd, m1, st1, rx.1, hdd, l1, o1⟩
      · exact o1.elim
    · exact o1.elim
  refine thn (ha.run pins s1 σ H1 _ I1 R) fun iv s2 ⟨y, H2, I2, ry, z, dd, m2, st2, e1, e2, l2, o2⟩ => ?_
  subst e1
  refine ⟨kd_type D I2, ?_⟩
  rcases h2 z with ⟨f1, _⟩ | ⟨d2, u0, v0, f1, f2, f3, f4⟩
  · rw [e2] at f1; cases f1
  · rw [e2] at f1; cases f1
    refine op_item_kd D pins s2 σ H2 (.ref d) (.str z) _ _ Q I2 rfl ry ⟨z, u0, v0, rfl, rfl, f2, f3, o2 m2 H2 v0 .refl l2 ?_⟩
    simp only [RepV]
    rw [hK]
    exact f4 _
/-- the entries of a table -/
inductive TabE (w : World) (K : PySem.W.Frag) : List DictEntry → List (Str × D) → Prop
  | nil : TabE w K [] []
  | cons {x : Str} {tk : Tok} {u : Value} {v : V} {dd : D} {hh : Int} {r : List DictEntry} {t : List (Str × D)} (h : hh = PyData.keyHash w.params x) (rv : RelV v u) (rd : ∀ H, RepD K H dd v) (tl : TabE w K r t) : TabE w K (⟨hh, .str x tk, u⟩ :: r) ((x, dd) :: t)
theorem TabE.lit {w : World} {K : PySem.W.Frag} : ∀ {es : List DictEntry} {t : List (Str × D)}, TabE w K es t → PySem.W.KeysLit w.params es
  | _, _, .nil => trivial
  | _, _, .cons h _ _ tl => ⟨⟨_, _, rfl, h⟩, tl.lit⟩
theorem TabE.noref {w : World} {K : PySem.W.Frag} : ∀ {es : List DictEntry} {t : List (Str × D)}, TabE w K es t → es.any (·.refKey) = false
  | _, _, .nil => rfl
  | _, _, .cons h _ _ tl => by rw [List.any_cons, tl.noref]; rfl
theorem TabE.find {w : World} {K : PySem.W.Frag} (z : Str) : ∀ {es : List DictEntry} {t : List (Str × D)}, TabE w K es t → (t.lookup z = none ∧ es.find? (·.key.isStr z) = none) ∨ ∃ dd e v, t.lookup z = some dd ∧ es.find? (·.key.isStr z) = some e ∧ RelV v e.val ∧ ∀ H, RepD K H dd v
  | _, _, .nil => .inl ⟨rfl, rfl⟩
  | _, _, .cons (x := x) (tk := tk) (u := u) (hh := hh) (r := r) (t := t) (dd := dd) (v := v) h rv rd tl => by
    by_cases e : x = z
    · subst e
      refine .inr ⟨dd, ⟨hh, .str x tk, u⟩, v, by simp [List.lookup], ?_, rv, rd⟩
      rw [List.find?_cons_of_pos]
      show (x == x) = true
      simp
    · have e1 : (z == x) = false := by simp; exact fun q => e q.symm
      have e2 : ((⟨hh, .str x tk, u⟩ : DictEntry).key.isStr z) = false := by
        show (x == z) = false
        simp; exact e
      rw [List.find?_cons_of_neg (by rw [e2]; simp)]
      simp only [List.lookup, e1]
      exact TabE.find z tl
theorem tab_of {w : World} {K : PySem.W.Frag} {mg : Str → Option Value} {x : Str} {d : Addr} {es : Array DictEntry} {n : Nat} {t : List (Str × D)} (hx : mg x = some (.ref d)) (hl : K.lookup d = some ⟨.type "dict", none, .dict es n, #[]⟩) (hs : (d == sysModules) = false) (h : TabE w K es.toList t) : TabOk K w mg x t := by
  refine ⟨d, es, n, hx, ⟨hl, h.lit, hs⟩, fun z => ?_⟩
  have e : PySem.W.nsIn K d z = (match es.toList.find? (·.key.isStr z) with | some e => some (some e.val) | none => if es.toList.any (·.refKey) then none else some none) := by
    unfold PySem.W.nsIn
    rw [hl]
    rfl
  rcases h.find z with ⟨h1, h2⟩ | ⟨dd, e', v, h1, h2, h3, h4⟩
  · exact .inl ⟨h1, by rw [e, h2]; simp [h.noref]⟩
  · exact .inr ⟨dd, e'.val, v, h1, by rw [e, h2], h3, h4⟩
end TW
namespace TW
open PySem PySem.Spec PyProof.Rows L2
/-! ### any comprehension that fills one new object: its block, once for all kinds -/
abbrev Err := Value → Shared → Prop
/-- what a turn does with the new object at D, behind its tests -/
abbrev Inn := Around → Env → Addr → (Shared → Prop) → Err → Shared → Prop
/-- a turn of the block's loop -/
def turnOf (Pr : Program) (w : World) (A : Around) (tg : Expr) (cnd : List Expr) (inn : Inn) (R : Result → Shared → Prop) (it : Value) (D : Addr) (ce : Env) (J : Nat → Shared → Prop) (n : Nat) (s : Shared) : Prop :=
  wpAny (model Pr w) A (pyNext it) (fun r sa => match r with
    | none => R (.ok .next) sa
    | some v => wpAny (model Pr w) A (letOwnedTupleGo tg it v) (fun _ sb => wpAny (model Pr w) A (assign tg ce v) (fun _ sc =>
        wpAny (model Pr w) A (forIn cnd true fun c r => if r = true then do let ok ← isTrue c ce (eval c ce); pure (ForInStep.yield ok) else pure (ForInStep.yield r)) (fun ok sd =>
          if ok = true then inn A ce D (fun se => ∃ m, m < n ∧ J m se) (notedBy (model Pr w) A ce fun e z => R (.error e) z) sd else ∃ m, m < n ∧ J m sd)
          (notedBy (model Pr w) A ce fun e z => R (.error e) z) sc) (notedBy (model Pr w) A ce fun e z => R (.error e) z) sb) (notedBy (model Pr w) A ce fun e z => R (.error e) z) sa) (notedBy (model Pr w) A ce fun e z => R (.error e) z) s
/-- a kind of comprehension: its tree, the new object -/
structure CmK (Pr : Program) (w : World) (cmp tg itr : Expr) (cnd : List Expr) (nw : Sem Value) (o0 : Obj) (inn : Inn) : Prop where
  cl : clausesOf cmp = [⟨tg, itr, cnd, 0⟩]
  new : ∀ (A : Around) (E : Err) (s : Shared) (Q : Value → Shared → Prop), Q (.ref s.heap.objs.size) { s with heap := s.heap.push o0 } → wpAny (model Pr w) A nw Q E s
  loop : ∀ (A : Around) (R : Result → Shared → Prop) (it : Value) (D : Addr) (ce : Env) (J : Nat → Shared → Prop) (n : Nat) (s : Shared), (∀ n s, J n s → turnOf Pr w A tg cnd inn R it D ce J n s) → J n s → codeAny (model Pr w) A (.compLoop cmp 0 it (.ref D) ce) R s
  start : ∀ (A : Around) (R : Result → Shared → Prop) (it : Value) (D : Addr) (ce : Env) (s : Shared), codeAny (model Pr w) A (.compLoop cmp 0 it (.ref D) ce) R s →
    wpAny (model Pr w) A (pyIter it) (fun i2 z => codeAny (model Pr w) A (.compLoop cmp 0 i2 (.ref D) ce) R z) (notedBy (model Pr w) A ce fun e z => R (.error e) z) s → codeAny (model Pr w) A (.compStart cmp 0 it (.ref D) ce) R s
section
variable {X : Cx}
/-- the reading: u0 D is the new object, ti what a turn asks -/
def tCm (u0 : Addr → HO) (wi : TI) (g : TG) (tt : TT) (ti : Addr → L2.St → Hp → (Hp → Prop) → Prop) (vs : List Nat) : TE := fun σ H Q => wi σ H fun J H1 => ∀ D, H1 D = none → ∃ W : Nat → Nat → Hp → Prop, (∃ m, W 0 m (upd H1 D (u0 D))) ∧ ∀ i m H, W i m H →
  (J.stop i H ∧ Q (.ref D) H) ∨ (J.go i H ∧ ∃ Nx : Hp → Prop, (∀ Hn, Nx Hn → ∃ mn, mn < m ∧ W (i + 1) mn Hn) ∧ ∀ x Hn, J.yld i H x Hn → g x (L2.wipe σ vs) Hn fun σ2 H2 => L2.wipe σ2 vs = L2.wipe σ vs ∧ tt σ2 H2 fun b H3 => if b = true then ti D σ2 H3 Nx else Nx H3)
theorem cm_core {pns : List (Addr × Obj)} {s : Shared} {σ : L2.St} {H : Hp} {Q : VK} {cmp tg itr : Expr} {cnd : List Expr} {nw : Sem Value} {o0 : Obj} {inn : Inn} {scp : Scope} {own : List (Str × Nat)} {pp : Pos} {u0 : Addr → HO} {wi : TI} {g : TG} {tt : TT} {ti : Addr → L2.St → Hp → (Hp → Prop) → Prop}
    (kd : CmK X.prog X.w cmp tg itr cnd nw o0 inn) (hc : X.calm = true) (hN : X.N.Nodup) (I : Inv X pns σ H s) (hi : PI X tg itr wi) (ok : BlkOk X.N X.env.scope scp own)
    (fresh : ∀ (s : Shared) (H : Hp), Inv X pns σ H s → ObjOk X.prog X.w (upd H s.heap.objs.size (u0 s.heap.objs.size)) (s.heap.push o0) s.heap.objs.size (u0 s.heap.objs.size)) (hfr : o0.isFreed = false)
    (hg : ∀ (s : Shared) (H : Hp) (C : Addr) (cl : List (Str × Addr)) (fp : List Addr), PG (X.blk s H scp (compEnvC scp cl C X.env) fp) tg g)
    (ht : ∀ (s : Shared) (H : Hp) (C : Addr) (cl : List (Str × Addr)) (fp : List Addr), PTs (X.blk s H scp (compEnvC scp cl C X.env) fp) cnd tt)
    (hin : ∀ (sB : Shared) (HB : Hp) (C : Addr) (cl : List (Str × Addr)) (fp : List Addr) (ps : List (Addr × Obj)) (D : Addr) (σ2 : L2.St) (H2 : Hp) (s2 : Shared) (Nx : Hp → Prop) (P : Shared → Prop) (E : Err), Inv (X.blk sB HB scp (compEnvC scp cl C X.env) fp) ps σ2 H2 s2 → ti D σ2 H2 Nx →
      (∀ H3 s3, Inv (X.blk sB HB scp (compEnvC scp cl C X.env) fp) ps σ2 H3 s3 → Nx H3 → P s3) → inn X.A (compEnvC scp cl C X.env) D P E s2)
    (hs : ∀ x, foldedSetIterable itr X.env x = pure x) (h : tCm u0 wi g tt ti (own.map (·.2)) σ H Q) :
    wpAny (model X.prog X.w) X.A (comprehension cmp scp X.env pp nw false (eval itr X.env)) (EP X pns σ Q) X.xe s := by
  have hfree : ∀ y ∈ scp.names, y.2 = .free → ∃ c, X.env.cells.lookup y.1 = some c := fun y hy e => (ok.free y hy e).elim (fun k => I.ok.has _ (.inl k)) fun k => I.ok.has _ (.inr k)
  refine wpAny_comprehension_free (use := none) kd.cl hs (closure_ok hfree) ok.kind (fun y hy e => by rw [ok.uniq y hy, e]) ?_
  refine thn (hi.run pns s σ H _ I h) fun xv sa hx => thn hx fun itv sb hb => ?_
  obtain ⟨it, fp, tn, J, Hb, rfl, Ib, T, tb, fb, q⟩ := hb
  refine kd.new _ _ _ _ (newEnv_comp ?_)
  have fresh := fresh sb Hb Ib
  obtain ⟨W, ⟨m0, w0⟩, turn⟩ := q sb.heap.objs.size (Ib.hok.fresh (Nat.le_refl _))
  have lt : ∀ b ∈ fp, b < sb.heap.objs.size := fun b hm => by obtain ⟨o, e, _⟩ := T.obj _ _ tb b hm; exact Heap.lt_size e
  have grow : ∀ b o, sb.heap.get? b = some o → (sb.heap.push o0).get? b = some o := fun _ _ e => Heap.get?_push_of_some _ e
  have hz : (sb.heap.push o0).objs.size = sb.heap.objs.size + 1 := Heap.size_push ..
  generalize hD : sb.heap.objs.size = D at *
  -- the new object stands
  have Ic : Inv X pns σ (upd Hb D (u0 D)) { sb with heap := sb.heap.push o0 } := Ib.laid (t' := sb.toks) grow (Nat.le_of_eq hD) fresh
  have nf : ∀ b ∈ fp, upd Hb D (u0 D) b = none := fun b hm => by rw [upd_ne (Nat.ne_of_lt (lt b hm))]; exact (fb b hm).1
  have fc : ∀ b ∈ fp, FpOk X pns (upd Hb D (u0 D)) b ∧ b < ({ sb with heap := sb.heap.push o0 } : Shared).heap.objs.size := fun b hm => ⟨⟨nf b hm, (fb b hm).2⟩, by show b < (sb.heap.push o0).objs.size; rw [hz]; exact Nat.lt_succ_of_lt (lt b hm)⟩
  have tc : tn 0 ({ sb with heap := sb.heap.push o0 } : Shared).heap := T.keep _ _ _ tb fun b _ o e => grow b o e
  have Id := block_start Ic ok hN fc
  show codeAny (model X.prog X.w) X.A (.compStart cmp 0 (.ref it) (.ref D) (compEnvC scp (cellsFrom (({ sb with heap := sb.heap.push o0 } : Shared).heap.objs.size + 1) scp.names (cloFrom X.env.cells scp.names [])) ({ sb with heap := sb.heap.push o0 } : Shared).heap.objs.size X.env)) (compPost (model X.prog X.w) X.A X.xe none (EP X pns σ Q) (.ref D) ({ sb with heap := sb.heap.push o0 } : Shared).heap.objs.size)
    { ({ sb with heap := sb.heap.push o0 } : Shared) with heap := pushCells (({ sb with heap := sb.heap.push o0 } : Shared).heap.push { cls := .type "dict", data := .dict #[] }) scp.names }
  have pg := hg { sb with heap := sb.heap.push o0 } (upd Hb D (u0 D)) ({ sb with heap := sb.heap.push o0 } : Shared).heap.objs.size (cellsFrom (({ sb with heap := sb.heap.push o0 } : Shared).heap.objs.size + 1) scp.names (cloFrom X.env.cells scp.names [])) fp
  have pt := ht { sb with heap := sb.heap.push o0 } (upd Hb D (u0 D)) ({ sb with heap := sb.heap.push o0 } : Shared).heap.objs.size (cellsFrom (({ sb with heap := sb.heap.push o0 } : Shared).heap.objs.size + 1) scp.names (cloFrom X.env.cells scp.names [])) fp
  have pin := hin { sb with heap := sb.heap.push o0 } (upd Hb D (u0 D)) ({ sb with heap := sb.heap.push o0 } : Shared).heap.objs.size (cellsFrom (({ sb with heap := sb.heap.push o0 } : Shared).heap.objs.size + 1) scp.names (cloFrom X.env.cells scp.names [])) fp
  clear hg ht hin fresh hz
  generalize ({ sb with heap := sb.heap.push o0 } : Shared) = sc at *
  have td : tn 0 (pushCells (sc.heap.push { cls := .type "dict", data := .dict #[] }) scp.names) := T.keep _ _ _ tc fun b _ o e => pushCells_keeps _ _ _ _ (Heap.get?_push_of_some _ e)
  generalize hce : compEnvC scp (cellsFrom (sc.heap.objs.size + 1) scp.names (cloFrom X.env.cells scp.names [])) sc.heap.objs.size X.env = ce at *
  have cL : ce.locals = sc.heap.objs.size := by subst hce; rfl
  generalize upd Hb D (u0 D) = Hc at *
  generalize hsd : ({ sc with heap := pushCells (sc.heap.push { cls := .type "dict", data := .dict #[] }) scp.names } : Shared) = sd at *
  have td : tn 0 sd.heap := by rw [← hsd]; exact td
  -- the iterator's own objects are out of reach within
  have far : ∀ {σ2 : L2.St} {H2 : Hp} {s2 : Shared}, Inv (X.blk sc Hc scp ce fp) [] σ2 H2 s2 → (∀ b ∈ fp, H2 b = none) → ∀ b ∈ fp, FpOk (X.blk sc Hc scp ce fp) [] H2 b := fun I2 hn b hm =>
    ⟨hn b hm, (I2.ok.exf b hm).1, I2.ok.exfs b hm, .inl hm, fun x c e => (I2.ok.exf b hm).2 x c e, fun p hp => absurd (show p ∈ ([] : List (Addr × Obj)) ++ [] from hp) (by simp)⟩
  have lp : codeAny (model X.prog X.w) X.A (.compLoop cmp 0 (.ref it) (.ref D) ce) (compPost (model X.prog X.w) X.A X.xe none (EP X pns σ Q) (.ref D) sc.heap.objs.size) sd := by
    refine kd.loop _ _ _ _ _ (fun n z => ∃ i H2, Inv (X.blk sc Hc scp ce fp) [] (L2.wipe σ (own.map (·.2))) H2 z ∧ tn i z.heap ∧ (∀ b ∈ fp, H2 b = none) ∧ W i n H2) m0 sd ?_ ⟨0, Hc, Id, td, nf, w0⟩
    rintro n z ⟨i, H2, I2, t2, n2, w2⟩
    unfold turnOf
    rcases turn i n H2 w2 with ⟨stop, fin⟩ | ⟨go, Nx, hNx, step⟩
    · refine thnF (T.done (X.blk sc Hc scp ce fp) rfl rfl rfl hc i [] z _ H2 (fun _ _ => False) I2 (far I2 n2) t2 stop) fun r z2 ⟨hr, I3⟩ => ?_
      subst hr
      have I4 : Inv X pns σ H2 z2 := Ic.call' (ch := fp) I3.os I3.base I3.hok I3.bare fun b hm => ⟨(fc b hm).1.2.2.2.1, (fc b hm).1.2.1, (fc b hm).1.2.2.2.2.1, (fc b hm).1.2.2.2.2.2⟩
      have nC : H2 sc.heap.objs.size = none := by have y : H2 ce.locals = none := I3.free; rw [cL] at y; exact y
      obtain ⟨m, hn, _⟩ := I3.loc
      have hn : z2.heap.Ns ce.locals m := hn
      rw [cL] at hn
      obtain ⟨f0, f1, f2, f3, f4, f5⟩ := Ic.fpOk (Nat.le_refl _) nC
      exact ⟨m, hn, fun h2 same => ⟨.ref D, H2, I4.turned (t' := z2.toks) (fun b o ne e => (same.2 b ne).trans e) f0 f1 f3 f4 f5, rfl, fin⟩⟩
    · refine thnF (T.item (X.blk sc Hc scp ce fp) rfl rfl rfl hc i [] z _ H2 (fun _ _ => False) I2 (far I2 n2) t2 go) fun r za ⟨u, hr, ha⟩ => ?_
      subst hr
      refine thnF ha fun _ zb ⟨x, H3, I3, r3, y3, t3, n3⟩ => ?_
      refine thnF (pg.run _ zb _ H3 x u _ (I3.pinned (far I3 n3) (T.obj _ _ t3)) r3 (step x H3 y3)) fun _ zc ⟨σ4, H4, I4, wp4, q4⟩ => ?_
      refine thnF (pt.run _ zc σ4 H4 _ I4 q4) fun b zd ⟨H5, I5, q5⟩ => ?_
      have next : ∀ H6 z6, Inv (X.blk sc Hc scp ce fp) ([] ++ pinsAt fp zb.heap) σ4 H6 z6 → Nx H6 → ∃ m, m < n ∧ ∃ i H2, Inv (X.blk sc Hc scp ce fp) [] (L2.wipe σ (own.map (·.2))) H2 z6 ∧ tn i z6.heap ∧ (∀ b ∈ fp, H2 b = none) ∧ W i m H2 := by
        intro H6 z6 I6 nx
        obtain ⟨m, hm, w6⟩ := hNx H6 nx
        have held : ∀ b ∈ fp, ∀ o, zb.heap.get? b = some o → z6.heap.get? b = some o ∧ H6 b = none := fun b hb o e => by
          have y := I6.pin (b, o) (List.mem_append_right _ (List.mem_append_right _ (mem_pinsAt hb e)))
          exact ⟨y.1, y.2.1⟩
        refine ⟨m, hm, i + 1, H6, (I6.unpinned (pins := [])).weak (by rw [← wp4, wipe_length]) (fun j v e => ?_), T.keep _ _ _ t3 fun b hb o e => (held b hb o e).1, fun b hb => ?_, w6⟩
        · rw [← wp4] at e; exact (wipe_some e).1
        · obtain ⟨o, e, _⟩ := T.obj _ _ t3 b hb
          exact (held b hb o e).2
      cases b with
      | false => simp only [Bool.false_eq_true, if_false] at q5 ⊢; exact next H5 zd I5 q5
      | true => simp only [if_true] at q5 ⊢; exact pin _ D σ4 H5 zd Nx _ _ I5 q5 next
  exact kd.start _ _ _ _ _ _ lp (T.self X.A 0 _ _ _ td lp)
end
end TW
namespace TW
open PySem PySem.Spec PyProof.Rows L2
section
variable {Pr : Program} {w : World} {Ky : Type} [DecidableEq Ky] {knd : PySem.KeyKind Pr w Ky} {A : Around} {E : Err} {s : Shared}
/-! ### a set of keys of any kind, its table known to rise -/
structure TabOk' (w : World) (t : SetTable) (n : Nat) : Prop where
  fits : t.fits n = true
  ris : Ris t.place.toList
  led : w.params.followText "set-order" = true ∨ t.led = true
/-- what stands behind an addition of what wasn't there -/
theorem add_new {a : Addr} {o : Obj} {zs : Array (Int × Value)} {ep : Nat} {t : SetTable} {k : Ky} {x : Value} {Q : Bool → Shared → Prop} (hk : knd.is k x = true) (hsc : x.scannable = true) (ho : s.heap.get? a = some o) (hd : o.data = .set zs ep t) (T : TabOk' w t zs.size)
    (hel : ElemsOf knd zs.toList) (hb : zs.size + 1 < scanBound)
    (old : ∀ j, zs.toList.findIdx? (fun e => knd.is k e.2) = some j → Q false s)
    (new : zs.toList.findIdx? (fun e => knd.is k e.2) = none → ∀ (h2 : Heap) (zs2 : Array (Int × Value)) (e2 : Nat) (t2 : SetTable), Heap.SameBut a s.heap h2 → h2.get? a = some { o with data := .set zs2 e2 t2 } → zs2.toList.Perm ((knd.hash k, x) :: zs.toList) → TabOk' w t2 zs2.size → Q true { s with heap := h2 }) :
    wpAny (model Pr w) A (setAddHashed a x (knd.hash k)) Q E s := by
  have hs1 : ∀ {l : List (Int × Value)} {m : Array (Int × Value)}, m.toList.Perm l → m.size = l.length := fun {l m} p => by rw [← Array.length_toList, p.length_eq]
  have stored : ∀ {h : Heap} {ob : Obj} {ys ys2 : Array (Int × Value)} {e : Nat} {u u2 : SetTable}, h.get? a = some ob → ob.data = .set ys e u → (h.update a (Obj.putSet ys2 u2)).get? a = some { ob with data := .set ys2 (e + 1) u2 } := fun {h ob ys ys2 e u u2} g1 g2 => by
    have q := Heap.get?_update_self (Obj.putSet ys2 u2) g1 (by rw [putSet_of ys2 u2 g2]; rfl)
    rwa [putSet_of ys2 u2 g2] at q
  have way : ∀ (b : Bool) {z : Shared} {P : Unit → Shared → Prop}, P () z → wpAny (model Pr w) A (match b with | true => rule "set.scan.the-table-gave-way" | false => pure ()) P E z := fun b z P q => by
    cases b
    · exact wpAny_pure q
    · exact wpAny_rule q
  unfold setAddHashed setAddHashedIn setAddByScan
  refine wpAny_holding (wpAny_bind (wpAny_setState_of ho hd T.fits ?_))
  simp only [byScan_of hsc (show zs.size < scanBound by omega) hel, if_true]
  refine wpAny_bind (wpAny_bind (wpAny_rule (wpAny_bind (wpAny_setScan_of hk ho hd T.fits hel ?_))))
  cases hf : zs.toList.findIdx? (fun e => knd.is k e.2) with
  | some j => exact wpAny_pure (wpAny_pure (old j hf))
  | none =>
    have p1 := layNew_perm t zs (knd.hash k) x
    have f1 := layNew_fits t zs (knd.hash k) x
    have r1 := layNew_ris t zs (knd.hash k) x T.ris
    have l1 := layNew_led t zs (knd.hash k) x
    generalize layNew t zs (knd.hash k) x = Z at p1 f1 r1 l1 ⊢
    obtain ⟨z1, t1, dm, gv⟩ := Z
    dsimp only at p1 f1 r1 l1 ⊢
    rw [Array.toList_push] at p1
    have p1 : z1.toList.Perm ((knd.hash k, x) :: zs.toList) := p1.trans (List.perm_append_singleton _ _)
    have n1 : z1.size = zs.size + 1 := by rw [hs1 p1, List.length_cons, Array.length_toList]
    have led1 : w.params.followText "set-order" = true ∨ t1.led = true := T.led.imp id fun y => by rw [l1]; exact y
    -- the new table is laid, perhaps once more in a greater one
    have tail : ∀ (t2 : SetTable), TabOk' w t2 z1.size → ∀ {g : Bool → Sem Unit}, (∀ (b : Bool) {z : Shared} {P : Unit → Shared → Prop}, P () z → wpAny (model Pr w) A (g b) P E z) → wpAny (model Pr w) A (do
        storeSet a z1 t2
        if (!dm && t2.tooFull) = true then do
            g (relayAll t2 z1 (SetTable.grown z1.size)).2.2
            storeSet a (relayAll t2 z1 (SetTable.grown z1.size)).1 (relayAll t2 z1 (SetTable.grown z1.size)).2.1
            pure (some true)
          else pure (some true)) (fun r z => r = some true ∧ Q true z) E s := by
      intro t2 T2 g hg
      refine wpAny_bind (wpAny_storeSet_of ho hd ?_ (fits_of_scanBound (by omega)))
      have g1 := stored (ys2 := z1) (u2 := t2) ho hd
      have same1 := Heap.SameBut.update s.heap a (Obj.putSet z1 t2)
      split
      · have p2 := relayAll_perm t2 z1 (SetTable.grown z1.size)
        have f2 := relayAll_fits t2 z1 (SetTable.grown z1.size)
        have r2 := relayAll_ris t2 z1 (SetTable.grown z1.size)
        have l2 := relayAll_led t2 z1 (SetTable.grown z1.size)
        generalize relayAll t2 z1 (SetTable.grown z1.size) = Y at p2 f2 r2 l2 ⊢
        obtain ⟨z2, t3, gv2⟩ := Y
        dsimp only at p2 f2 r2 l2 ⊢
        have n2 : z2.size = z1.size := by rw [hs1 p2, Array.length_toList]
        refine wpAny_bind (hg _ (wpAny_bind (wpAny_storeSet_of g1 rfl (wpAny_pure ⟨rfl, ?_⟩) (fits_of_scanBound (by omega)))))
        have g2 : ((s.heap.update a (Obj.putSet z1 t2)).update a (Obj.putSet z2 t3)).get? a = some { o with data := .set z2 (ep + 1 + 1) t3 } := by
          have y := stored (ys2 := z2) (u2 := t3) g1 rfl
          exact y
        exact new hf _ z2 _ t3 (same1.trans (Heap.SameBut.update _ a _)) g2 (p2.trans p1) ⟨f2, r2, T2.led.imp id fun y => by rw [l2]; exact y⟩
      · exact wpAny_pure ⟨rfl, new hf _ z1 _ t2 same1 g1 p1 T2⟩
    refine wpAny_bind (way _ ?_)
    split
    · refine wpAny_bind ?_
      rw [hashByValue_scannable 8 hsc]
      refine wpAny_pure (wpAny_mono (tail _ ?_ (g := fun b => match b with | true => rule "set.scan.the-table-gave-way" | false => pure ()) way) ?_ fun _ _ q => q)
      · refine ⟨?_, ?_, ?_⟩
        · split
          · exact f1
          · exact SetTable.fits_plain_off f1
        · split <;> exact r1
        · split <;> exact led1
      · rintro r z ⟨rfl, q⟩
        exact wpAny_pure q
    · refine wpAny_bind (wpAny_pure ?_)
      simp only [if_true]
      refine wpAny_mono (tail t1 ⟨f1, r1, led1⟩ (g := fun b => match b with | true => rule "set.scan.the-table-gave-way" | false => pure ()) way) ?_ fun _ _ q => q
      rintro r z ⟨rfl, q⟩
      exact wpAny_pure q
end
end TW
namespace TW
open PySem PySem.Spec PyProof.Rows L2
/-! ### sets of texts -/
def strE (P : Program) (w : World) (e : Int × Value) (k : Str) : Prop := (PySem.strKind P w).is k e.2 = true ∧ e.1 = (PySem.strKind P w).hash k
def SetAtS (P : Program) (w : World) (h : Heap) (a : Addr) (L : List Str) : Prop := ∃ o zs ep t ks, h.get? a = some o ∧ o.ExactSet ∧ o.data = .set zs ep t ∧ Paired (strE P w) zs.toList ks ∧ ks.Perm L ∧ L.Nodup ∧ zs.size < scanBound ∧ TabOk' w t zs.size
def SetS (P : Program) (w : World) (a : Addr) (L : List Str) : HO := .ext fun h => SetAtS P w h a L
theorem setS_ok {P : Program} {w : World} {H : Hp} {h : Heap} {a : Addr} {L : List Str} (R : SetAtS P w h a L) : ObjOk P w H h a (SetS P w a L) := by
  have ⟨o, _, _, _, _, ho, _⟩ := R
  exact ⟨R, ⟨o, ho⟩, fun h1 h2 ⟨o, zs, ep, t, ks, ho, r⟩ k => ⟨o, zs, ep, t, ks, k o ho, r⟩⟩
theorem paired_mem {α β : Type} {F : α → β → Prop} {xs : List α} {ys : List β} (h : Paired F xs ys) : (∀ x ∈ xs, ∃ y ∈ ys, F x y) ∧ ∀ y ∈ ys, ∃ x ∈ xs, F x y := by
  induction h with
  | nil => exact ⟨fun _ z => (nomatch z), fun _ z => (nomatch z)⟩
  | cons p q ih =>
    refine ⟨fun x hx => ?_, fun y hy => ?_⟩
    · rcases List.mem_cons.mp hx with rfl | hx
      · exact ⟨_, by simp, p⟩
      · obtain ⟨y, hy, r⟩ := ih.1 x hx
        exact ⟨y, by simp [hy], r⟩
    · rcases List.mem_cons.mp hy with rfl | hy
      · exact ⟨_, by simp, p⟩
      · obtain ⟨x, hx, r⟩ := ih.2 y hy
        exact ⟨x, by simp [hx], r⟩
theorem paired_perm {α β : Type} {F : α → β → Prop} {xs xs2 : List α} (p : xs2.Perm xs) : ∀ {ys : List β}, Paired F xs ys → ∃ ys2, ys2.Perm ys ∧ Paired F xs2 ys2 := by
  induction p with
  | nil => intro ys h; exact ⟨ys, .refl _, h⟩
  | cons x p ih =>
    intro ys h
    cases h with
    | cons a b =>
      obtain ⟨ys2, p2, h2⟩ := ih b
      exact ⟨_ :: ys2, p2.cons _, .cons a h2⟩
  | swap x y l =>
    intro ys h
    cases h with
    | cons a b =>
      cases b with
      | cons c d => exact ⟨_, List.Perm.swap _ _ _, .cons c (.cons a d)⟩
  | trans _ _ ih1 ih2 =>
    intro ys h
    obtain ⟨y1, p1, h1⟩ := ih2 h
    obtain ⟨y2, p2, h2⟩ := ih1 h1
    exact ⟨y2, p2.trans p1, h2⟩
theorem elems_of {P : Program} {w : World} {zs : List (Int × Value)} {ks : List Str} (h : Paired (strE P w) zs ks) : ElemsOf (PySem.strKind P w) zs := fun e he => by
  obtain ⟨k, _, q1, q2⟩ := (paired_mem h).1 e he
  refine ⟨⟨k, q1, q2⟩, ?_⟩
  obtain ⟨t, e1⟩ := Value.isStrOf_shape q1
  rw [e1]; rfl
section
variable {Pr : Program} {w : World} {A : Around} {E : Err} {s : Shared}
theorem setS_add {a : Addr} {L : List Str} {k : Str} {tk : Tok} {Q : Value → Shared → Prop} (R : SetAtS Pr w s.heap a L) (rom : L.length + 1 < scanBound)
    (hQ : ∀ h2, Heap.SameBut a s.heap h2 → SetAtS Pr w h2 a (addK L k) → Q .none { s with heap := h2, toks := s.toks + 1 }) : wpAny (model Pr w) A (call (.builtin "set.add") [.ref a, .str k tk]) Q E s := by
  obtain ⟨o, zs, ep, t, ks, ho, hx, hd, hp, pm, nd, hb, T⟩ := R
  have hT : s.TypeIs (.ref a) "set" := ⟨o, ho, hx.1⟩
  have hkk : (PySem.strKind Pr w).is k (.str k tk) = true := by show Value.isStrOf k (.str k tk) = true; simp [Value.isStrOf]
  have hn : zs.size = L.length := by
    have h1 : zs.toList.length = ks.length := Paired.length hp
    rw [← Array.length_toList, h1, pm.length_eq]
  refine wpAny_call_entry F.slot_set_add hT F.entry_set_add ?_ (F.args_set_add_2 _ _)
  unfold Builtin.«set.add» Builtin.Frozenset.oneOther
  simp only [List.isEmpty_nil, bind_assoc]
  unfold Builtin.Frozenset.addrOf setAdd
  refine wpAny_bind (wpAny_pure ?_)
  try dsimp only
  first
    | refine wpAny_bind (wpAny_pure ?_)
    | skip
  try dsimp only
  refine wpAny_bind (wpAny_holding (wpAny_bind ((PySem.strKind Pr w).pyHash hkk ?_)))
  refine add_new (s := { s with toks := s.toks + 1 }) hkk rfl ho hd T (elems_of hp) (by omega) (fun j hj => ?_) fun hno h2 zs2 e2 t2 same g2 p2 T2 => ?_
  · refine wpAny_pure ⟨_, rfl, ?_⟩
    have hin : k ∈ L := by
      obtain ⟨hj1, hj2, _⟩ := List.findIdx?_eq_some_iff_getElem.mp hj
      obtain ⟨k2, hk2, q1, _⟩ := (paired_mem hp).1 _ (List.getElem_mem hj1)
      rw [(PySem.strKind Pr w).inj _ k k2 hj2 q1]
      exact pm.mem_iff.mp hk2
    have := hQ s.heap (Heap.SameBut.refl a s.heap) (by unfold addK; rw [if_pos hin]; exact ⟨o, zs, ep, t, ks, ho, hx, hd, hp, pm, nd, hb, T⟩)
    exact this
  · refine wpAny_pure ⟨_, rfl, hQ h2 same ?_⟩
    have hout : k ∉ L := fun hin => by
      obtain ⟨e, he, q1, _⟩ := (paired_mem hp).2 k (pm.mem_iff.mpr hin)
      have := List.findIdx?_eq_none_iff.mp hno e he
      rw [q1] at this; cases this
    obtain ⟨ks2, pk, hp2⟩ := paired_perm p2 (.cons (show strE Pr w ((PySem.strKind Pr w).hash k, .str k tk) k from ⟨hkk, rfl⟩) hp)
    unfold addK
    rw [if_neg hout]
    have n2 : zs2.size = zs.size + 1 := by rw [← Array.length_toList, p2.length_eq, List.length_cons, Array.length_toList]
    exact ⟨_, zs2, e2, t2, ks2, g2, hx, rfl, hp2, pk.trans (pm.cons k), List.nodup_cons.mpr ⟨hout, nd⟩, by omega, T2⟩
theorem setS_fresh {h : Heap} (w : World) : SetAtS Pr w (h.push { cls := .type "set", dict := none, data := .set #[] 0 (.fresh 0 0 (!w.params.followText "set-order")) }) h.objs.size [] :=
  ⟨_, #[], 0, _, [], Heap.get?_push_size _ rfl, ⟨rfl, rfl, rfl⟩, rfl, .nil, .refl _, .nil, by decide, ⟨rfl, List.Pairwise.nil, by cases h : w.params.followText "set-order" <;> simp [h, SetTable.fresh]⟩⟩
/-- the texts of a set, rising -/
theorem setS_sorted {a : Addr} {L : List Str} {Q : Value → Shared → Prop} (R : SetAtS Pr w s.heap a L) (hh : A.handled = none) (hu : A.units + 10 < cLine)
    (hQ : ∀ s2 p (out : Array Value) (c : Nat), (∀ b o, s.heap.get? b = some o → s2.heap.get? b = some o) → s2.gens = s.gens → s2.os = s.os → s.heap.objs.size ≤ p → s2.heap.get? p = some (seqObj "list" out c) → PySem.W.EachIs (fun v x => ∃ t, v = Value.str x t) out.toList (sortS L) → Q (.ref p) s2) :
    wpAny (model Pr w) A (call (.builtin "sorted") [.ref a]) Q E s := by
  obtain ⟨o, zs, ep, t, ks, ho, hx, hd, hp, pm, nd, hb, T⟩ := R
  refine Calls.call_function_entry kind_sorted plain_sorted entry_sorted (args_sorted1 _) ?_
  unfold Builtin.«sorted»
  refine wpAny_bind (m := checkCount "sorted" 1 1 _) (wpAny_pure (wpAny_bind (collect_set (A := A.in1) hh ⟨o, ho, hx.1, hd⟩ T.fits hb T.ris T.led fun s1 vs k1 hz g1 o1 pv => ?_)))
  have hv0 : Paired (fun v x => ∃ t, v = Value.str x t) (zs.toList.map (·.2)) ks := by
    have key : ∀ {l : List (Int × Value)} {m : List Str}, Paired (strE Pr w) l m → Paired (fun v x => ∃ t, v = Value.str x t) (l.map (·.2)) m := fun h => by
      induction h with
      | nil => exact .nil
      | cons q r ih => exact .cons (Value.isStrOf_shape q.1) ih
    exact key hp
  obtain ⟨ks2, pk, hv⟩ := paired_perm pv hv0
  have each : ∀ {as : List Value} {bs : List Str}, Paired (fun v x => ∃ t, v = Value.str x t) as bs → PySem.W.EachIs (fun v x => ∃ t, v = Value.str x t) as bs := fun h => by
    induction h with
    | nil => exact .nil
    | cons p q ih => exact .cons p ih
  have hlen : vs.length = ks2.length := Paired.length hv
  have hk2 : ks2.length < scanBound := by
    rw [← hlen, pv.length_eq, List.length_map, Array.length_toList]; exact hb
  have hsl : ks2.length ≤ sizeLine := fits_of_scanBound hk2
  refine wpAny_bind (wpAny_newList ?_ (by rw [hlen]; exact hsl))
  have hoL : (s1.heap.push (seqObj "list" vs.toArray 0)).get? s1.heap.objs.size = some (seqObj "list" vs.toArray 0) := Heap.get?_push_size _ rfl
  refine wpAny_bind (wpAny_holding ?_)
  refine PySem.W.list_sort_data (R := fun v x => ∃ t, v = Value.str x t) (enc := PyData.str) (bs := ks2) hoL (each hv) ?_ (.of fun _ _ => rfl) (.others fun b => ⟨fun z => (nomatch z), fun _ z => (nomatch z)⟩) hsl (fun b _ => by show A.units + 1 + 1 + 0 < cLine; omega) fun out hol hout => ?_
  · have : ∀ {as : List Value} {bs : List Str}, Paired (fun v x => ∃ t, v = Value.str x t) as bs → PySem.W.EachIs (fun v b => ∃ as', Reads (s1.heap.push (seqObj "list" vs.toArray 0)) v (PyData.str b) as' ∧ s1.heap.objs.size ∉ as') as bs := fun h => by
      induction h with
      | nil => exact .nil
      | cons p q ih =>
        obtain ⟨t, rfl⟩ := p
        exact .cons ⟨[], Reads.str _ t, by simp⟩ ih
    exact this hv
  · obtain ⟨c, hc⟩ := sortedHeap_at (vs := vs) (out := out.toArray) hoL
    refine wpAny_pure ⟨_, rfl, hQ _ s1.heap.objs.size out.toArray c (fun b u e => ?_) g1 o1 hz hc ?_⟩
    · have q := k1 b u e
      have hlt := Heap.lt_size q
      show (sortedHeap (s1.heap.push (seqObj "list" vs.toArray 0)) s1.heap.objs.size vs out.toArray).get? b = some u
      rw [sortedHeap_old (Nat.ne_of_lt hlt) (by rw [Heap.size_push]; exact Nat.lt_succ_of_lt hlt)]
      exact Heap.get?_push_of_some _ q
    · have e1 : ks2.mergeSort (PySem.W.dataLe false PyData.str) = sortS ks2 := by
        unfold sortS
        congr 1
        exact PySem.W.dataLe_str (fun b : Str => b)
      rw [e1, sortS_eq (pk.trans pm)] at hout
      simpa using hout
end
end TW
namespace TW
open PySem PySem.Spec PyProof.Rows L2
/-! ### set(xs), xs texts -/
section
variable {Pr : Program} {w : World} {A : Around} {E : Value → Shared → Prop} {s : Shared}
theorem setS_addIn {a : Addr} {L : List Str} {k : Str} {tk : Tok} {Q : Bool → Shared → Prop} (R : SetAtS Pr w s.heap a L) (rom : L.length + 1 < scanBound)
    (hQ : ∀ b h2, Heap.SameBut a s.heap h2 → SetAtS Pr w h2 a (addK L k) → Q b { s with heap := h2, toks := s.toks + 1 }) : wpAny (model Pr w) A (setAdd a (.str k tk)) Q E s := by
  obtain ⟨o, zs, ep, t, ks, ho, hx, hd, hp, pm, nd, hb, T⟩ := R
  have hkk : (PySem.strKind Pr w).is k (.str k tk) = true := by show Value.isStrOf k (.str k tk) = true; simp [Value.isStrOf]
  have hn : zs.size = L.length := by
    have h1 : zs.toList.length = ks.length := Paired.length hp
    rw [← Array.length_toList, h1, pm.length_eq]
  unfold setAdd
  refine wpAny_holding (wpAny_bind ((PySem.strKind Pr w).pyHash hkk ?_))
  refine add_new (s := { s with toks := s.toks + 1 }) hkk rfl ho hd T (elems_of hp) (by omega) (fun j hj => ?_) fun hno h2 zs2 e2 t2 same g2 p2 T2 => ?_
  · have hin : k ∈ L := by
      obtain ⟨hj1, hj2, _⟩ := List.findIdx?_eq_some_iff_getElem.mp hj
      obtain ⟨k2, hk2, q1, _⟩ := (paired_mem hp).1 _ (List.getElem_mem hj1)
      rw [(PySem.strKind Pr w).inj _ k k2 hj2 q1]
      exact pm.mem_iff.mp hk2
    exact hQ _ s.heap (Heap.SameBut.refl a s.heap) (by unfold addK; rw [if_pos hin]; exact ⟨o, zs, ep, t, ks, ho, hx, hd, hp, pm, nd, hb, T⟩)
  · refine hQ _ h2 same ?_
    have hout : k ∉ L := fun hin => by
      obtain ⟨e, he, q1, _⟩ := (paired_mem hp).2 k (pm.mem_iff.mpr hin)
      have := List.findIdx?_eq_none_iff.mp hno e he
      rw [q1] at this; cases this
    obtain ⟨ks2, pk, hp2⟩ := paired_perm p2 (.cons (show strE Pr w ((PySem.strKind Pr w).hash k, .str k tk) k from ⟨hkk, rfl⟩) hp)
    unfold addK
    rw [if_neg hout]
    have n2 : zs2.size = zs.size + 1 := by rw [← Array.length_toList, p2.length_eq, List.length_cons, Array.length_toList]
    exact ⟨_, zs2, e2, t2, ks2, g2, hx, rfl, hp2, pk.trans (pm.cons k), List.nodup_cons.mpr ⟨hout, nd⟩, by omega, T2⟩
theorem foldl_addK_len (xs : List Str) : ∀ L : List Str, (xs.foldl addK L).length ≤ L.length + xs.length := by
  induction xs with
  | nil => intro L; simp
  | cons x xs ih =>
    intro L
    have h1 := ih (addK L x)
    have h2 := addK_len L x
    simp only [List.foldl_cons, List.length_cons]
    omega
theorem updS {R : Result → Shared → Prop} {I S : Addr} {fp wr : List Addr} {n : Nat} {P : Nat → Value → Prop} {St : Nat → Heap → Prop} (W : Walks Pr w A.in1 I fp wr n P St) (hSf : S ∉ fp) (xs : List Str) (hn : xs.length = n) (hb : n + 1 < scanBound)
    (hv : ∀ i v, P i v → ∃ x t, xs[i]? = some x ∧ v = .str x t) :
    ∀ (k i : Nat) (s : Shared), n - i = k → i ≤ n → St i s.heap → SetAtS Pr w s.heap S (setOf (xs.take i)) →
      (∀ h' tk, (∀ b o, b ≠ S → b ∉ wr → s.heap.get? b = some o → h'.get? b = some o) → SetAtS Pr w h' S (setOf xs) → R (.ok (.ret .none)) { s with heap := h', toks := tk }) →
      codeAny (model Pr w) A (.builtin "set.update.loop" ⟨[.ref S, .ref I], []⟩) R s := by
  have hSw : S ∉ wr := fun h => hSf (W.sub _ h)
  intro k
  induction k with
  | zero =>
    intro i s hk hi st hS hR
    have : i = n := by omega
    subst this
    refine codeAny_builtin PyProof.Rows.F.entry_set_update_loop ?_
    rw [Around.under_plainId PyProof.Rows.F.plain_set_update_loop _]
    show wpAny _ A.in1 (pyNext (.ref I) >>= _) _ _ s
    refine wpAny_bind (W.done s _ _ st fun h' tk kp => ?_)
    refine wpAny_pure (hR h' tk (fun b o _ hw e => kp b o hw e) ?_)
    obtain ⟨o, zs, ep, t, ks, ho, r⟩ := hS
    rw [← hn, List.take_length] at r
    exact ⟨o, zs, ep, t, ks, kp S o hSw ho, r⟩
  | succ k ih =>
    intro i s hk hi st hS hR
    have hlt : i < n := by omega
    refine codeAny_builtin PyProof.Rows.F.entry_set_update_loop ?_
    rw [Around.under_plainId PyProof.Rows.F.plain_set_update_loop _]
    show wpAny _ A.in1 (pyNext (.ref I) >>= _) _ _ s
    refine wpAny_bind (W.item i s _ _ hlt st fun v h' tk hP st' kp => ?_)
    obtain ⟨x, t, hx, rfl⟩ := hv i v hP
    have hS' : SetAtS Pr w h' S (setOf (xs.take i)) := by
      obtain ⟨o, zs, ep, t, ks, ho, r⟩ := hS
      exact ⟨o, zs, ep, t, ks, kp S o hSw ho, r⟩
    have hlen := foldl_addK_len (xs.take i) []
    show wpAny _ A.in1 (holding [Value.str x t] (setAdd S (.str x t)) >>= _) _ _ { s with heap := h', toks := tk }
    refine wpAny_bind (wpAny_holding (setS_addIn (s := { s with heap := h', toks := tk }) hS' (by unfold setOf; simp at hlen; omega) fun b h2 same hS2 => ?_))
    have e1 : setOf (xs.take (i + 1)) = addK (setOf (xs.take i)) x := by
      unfold setOf
      rw [List.take_add_one, hx, List.foldl_append]
      rfl
    refine wpAny_pure ⟨plainId_quiet PyProof.Rows.F.plain_set_update_loop _, ih (i + 1) _ (by omega) hlt (W.frame _ h' _ st' fun b hbf o e => ?_) (by rw [e1]; exact hS2) fun h3 tk3 kp3 hS3 => ?_⟩
    · exact (same.2 b (fun z => hSf (z ▸ hbf))).trans e
    · exact hR h3 tk3 (fun b o hbS hw e => kp3 b o hbS hw ((same.2 b hbS).trans (kp b o hw e))) hS3
/-- a type is called whose check wants the object -/
theorem typeCall_chk {T newId initId : String} {Bi : Builtin} {args : List Value} {Q Q₁ : Value → Shared → Prop} (ft : TypeCalled T newId initId)
    (hct : checkTypeCall T ⟨args, []⟩ = pure ()) (entryI : entryFor table initId = some Bi)
    (hnew : codeAny (model Pr w) A.in1 (.call (.builtin newId) ⟨.type T :: args, []⟩) (wants Q₁ E) s)
    (hnext : ∀ obj s₁, Q₁ obj s₁ → s₁.TypeIs obj T ∧ (∀ (B : Around) (E' : Value → Shared → Prop) (P : Unit → Shared → Prop), P () s₁ → wpAny (model Pr w) B (checkBuiltinCall initId ⟨obj :: args, []⟩) P E' s₁) ∧
      wpAny (model Pr w) A.in1.in1 (Bi ⟨obj :: args, []⟩)
        (fun fin s' => match fin with | .done f => wants (fun r s₂ => r = .none ∧ Q obj s₂) E (.ok f) s' | .again c' => c'.quiet = true ∧ codeAny (model Pr w) A.in1 c' (wants (fun r s₂ => r = .none ∧ Q obj s₂) E) s')
        (fun e s' => wants (fun r s₂ => r = .none ∧ Q obj s₂) E (.error e) s') s₁) :
    wpAny (model Pr w) A (call (.type T) args) Q E s := by
  obtain ⟨c, tl, hmro⟩ := ft.mro
  have hmade := ft.made
  have hsub := ft.sub
  refine wpAny_call (codeAny_of_tree ?_)
  show wpAny _ _ (callAny (.type T) _) _ _ _
  refine wpAny_pure ⟨Code.quiet_builtin _ (by decide +kernel), codeAny_builtin PySem.F.entry_type_call ?_⟩
  rw [Around.under_plain (weight_type_call_type T args []) rfl]
  have h1 := ft.notType
  have h2 := ft.canCreate
  repeat (any_goals (first | assumption | wp_step))
  refine codeAny_mono hnew fun r s₁ hr => ?_
  cases r with
  | error e => exact hr
  | ok fl =>
    cases fl with
    | ret obj =>
      obtain ⟨hT, hok, hsi⟩ := hnext _ _ hr
      have hli := ft.init.lookup
      have hbi := ft.init.bind obj
      repeat (any_goals (first | assumption | wp_step))
      refine codeAny_mono (codeAny_call_builtin ft.init.plain entryI (hok _ _ _ hsi)) fun r₂ s₂ hr₂ => ?_
      cases r₂ with
      | error e => exact hr₂
      | ok fl₂ =>
        cases fl₂ with
        | ret r =>
          obtain ⟨rfl, hq⟩ := hr₂
          repeat (any_goals (first | assumption | wp_step))
        | _ => exact hr₂.elim
    | _ => exact hr.elim
theorem set_new1 (a : Value) {Q₁ : Value → Shared → Prop}
    (h : Q₁ (.ref s.heap.objs.size) { s with heap := s.heap.push { cls := .type "set", dict := none, data := .set #[] 0 (.fresh 0 0 (!w.params.followText "set-order")) } }) :
    codeAny (model Pr w) A (.call (.builtin "set.__new__") ⟨[.type "set", a], []⟩) (wants Q₁ E) s := by
  refine codeAny_of_tree ?_
  show wpAny _ A.in1 (do checkBuiltinCall "set.__new__" ⟨[.type "set", a], []⟩; again (.builtin "set.__new__" ⟨[.type "set", a], []⟩)) _ _ s
  refine wpAny_bind (wpAny_of_eq (PySem.F.newCall_set_1 a) (wpAny_pure ⟨plainId_quiet PySem.F.plain_set_new _, codeAny_builtin PySem.F.entry_set_new ?_⟩))
  rw [Around.under_plainId PySem.F.plain_set_new _]
  unfold Builtin.«set.__new__» Builtin.Frozenset.newClass
  have hsub := sub_set_self
  generalize hN : newSet = NS
  dsimp only
  wp_walk
  subst hN
  refine PpSet.newSet_ok ?_
  exact wpAny_pure h
def setO1 (w : World) : Obj := { cls := .type "set", dict := none, data := .set #[] 0 (.fresh 0 0 (!w.params.followText "set-order")) }
theorem set_texts {l : Addr} {items : Array Value} {xs : List Str} {Q : Value → Shared → Prop} (hh : A.handled = none) (hl : s.heap.IsList l items) (hi : Paired (fun v x => ∃ t, v = Value.str x t) items.toList xs) (hb : xs.length + 1 < scanBound)
    (h : ∀ h' tk, SetAtS Pr w h' s.heap.objs.size (setOf xs) → (∀ b o, s.heap.get? b = some o → h'.get? b = some o) → Q (.ref s.heap.objs.size) { s with heap := h', toks := tk }) :
    wpAny (model Pr w) A (call (.type "set") [.ref l]) Q E s := by
  refine typeCall_chk PySem.F.called_set (PySem.F.typeCall_set_1 _) PySem.F.entry_set_init (set_new1 (.ref l) (Q₁ := fun obj s₁ => obj = .ref s.heap.objs.size ∧ s₁ = { s with heap := s.heap.push (setO1 w) }) ⟨rfl, rfl⟩) ?_
  rintro obj s₁ ⟨rfl, rfl⟩
  have hS : (s.heap.push (setO1 w)).get? s.heap.objs.size = some (setO1 w) := Heap.get?_push_size _ rfl
  have hT : Shared.TypeIs { s with heap := s.heap.push (setO1 w) } (.ref s.heap.objs.size) "set" := ⟨_, hS, rfl⟩
  refine ⟨hT, fun B E' P hP => check_set_init_1 hT hP, ?_⟩
  have hl1 : (s.heap.push (setO1 w)).IsList l items := hl.push _
  obtain ⟨ol, hol, hcl, nl, hdl⟩ := id hl
  have hlS : l < s.heap.objs.size := Heap.lt_size hol
  obtain ⟨ocls, odict, odata, oslots⟩ := ol
  simp only at hcl hdl
  subst hcl; subst hdl
  have hol' : (s.heap.push (setO1 w)).get? l = some { cls := .type "list", dict := odict, data := .seq items nl, slots := oslots } := Heap.get?_push_of_some _ hol
  unfold setO1 at hS hT hl1 hol' ⊢
  have hsls := PySem.F.sub_list_set
  have hslf := PySem.F.sub_list_frozenset
  have hne : (Value.type "list" == Value.type "dict") = false := by decide
  unfold Builtin.«set.__init__» noKeywords Builtin.Frozenset.updateFrom
  generalize hPI : pyIter = PI
  wp_walk
  subst hPI
  refine wpAny_pyIter_list hl1 ?_
  refine wpAny_bind (wpAny_runValue ?_)
  have hneI : l ≠ (s.heap.push (setO1 w)).objs.size := by
    rw [Heap.size_push]; exact Nat.ne_of_lt (Nat.lt_succ_of_lt hlS)
  have hSf : s.heap.objs.size ∉ [(s.heap.push (setO1 w)).objs.size, l] := by
    rw [Heap.size_push]; simp only [List.mem_cons, List.not_mem_nil, or_false, not_or]
    exact ⟨Nat.ne_of_lt (Nat.lt_succ_self _), Nat.ne_of_gt hlS⟩
  have hsz : xs.length = items.size := by rw [← Paired.length hi, Array.length_toList]
  refine updS (Walks.list (by simp [hh]) _ l hneI items) hSf xs hsz (by omega) (fun i v hv => ?_) (items.size - 0) 0 _ (by omega) (Nat.zero_le _) ⟨⟨_, Heap.get?_push_size _ rfl, rfl, rfl⟩, hl1.push _⟩ ?_ fun h' tk kp hS' => ?_
  · obtain ⟨x, hx, t, e⟩ := paired_get hi (show items.toList[i]? = some v by rw [Array.getElem?_toList]; exact hv)
    exact ⟨x, t, hx, e⟩
  · have f := setS_fresh (Pr := Pr) (h := s.heap) w
    obtain ⟨o, zs, ep, t, ks, ho, r⟩ := f
    exact ⟨o, zs, ep, t, ks, Heap.get?_push_of_some _ ho, r⟩
  · refine wpAny_pure (wpAny_pure ⟨rfl, h h' tk hS' fun b o e => ?_⟩)
    have hb1 : b < s.heap.objs.size := Heap.lt_size e
    refine kp b o (Nat.ne_of_lt hb1) ?_ (Heap.get?_push_of_some _ (Heap.get?_push_of_some _ e))
    rw [List.mem_singleton]
    exact Nat.ne_of_lt (by rw [Heap.size_push]; exact Nat.lt_succ_of_lt hb1)
end
end TW
namespace TW
open PySem PySem.Spec PyProof.Rows L2
variable {X : Cx} {g : Gx}
/-! ### {elt for ..}, texts; sorted({..}) -/
def innS (Pr : Program) (w : World) (elt : Expr) : Inn := fun A ce D P E s => wpAny (model Pr w) A (eval elt ce) (fun x z => wpAny (model Pr w) A (call (.builtin "set.add") [.ref D, x]) (fun _ z2 => P z2) E z) E s
def setO0 (w : World) : Obj := { cls := .type "set", dict := none, data := .set #[] 0 (.fresh 0 0 (!w.params.followText "set-order")) }
theorem cmk_set {Pr : Program} {w : World} {elt tg itr : Expr} {cnd : List Expr} {scp : Scope} {pos : Pos} : CmK Pr w (.SetComp elt [⟨tg, itr, cnd, 0⟩] scp pos) tg itr cnd (newSet (.type "set")) (setO0 w) (innS Pr w elt) where
  cl := rfl
  new := fun A E s Q h => PpSet.newSet_ok h
  loop := fun A R it D ce J n s turn h => PpSet.compLoopS_any J (fun n s hJ => turn n s hJ) n h
  start := fun A R it D ce s h0 h => PpSet.codeAny_compStart_set h0 h
def tiS (P : Program) (w : World) (te : TE) (D : Addr) (σ : L2.St) (H : Hp) (Nx : Hp → Prop) : Prop := te σ H fun y H4 => ∃ k L, y = .str k ∧ H4 D = some (SetS P w D L) ∧ L.length + 1 < scanBound ∧ Nx (upd H4 D (SetS P w D (addK L k)))
theorem pe_scS {elt tg itr : Expr} {cnd : List Expr} {scp : Scope} {own : List (Str × Nat)} {pos : Pos} {wi : TI} {gg : TG} {tt : TT} {te : TE} (hc : X.calm = true) (hN : X.N.Nodup) (hi : PI X tg itr wi) (ok : BlkOk X.N X.env.scope scp own)
    (hg : ∀ (s : Shared) (H : Hp) (C : Addr) (cl : List (Str × Addr)) (fp : List Addr), PG (X.blk s H scp (compEnvC scp cl C X.env) fp) tg gg)
    (ht : ∀ (s : Shared) (H : Hp) (C : Addr) (cl : List (Str × Addr)) (fp : List Addr), PTs (X.blk s H scp (compEnvC scp cl C X.env) fp) cnd tt)
    (he : ∀ (s : Shared) (H : Hp) (C : Addr) (cl : List (Str × Addr)) (fp : List Addr), PE (X.blk s H scp (compEnvC scp cl C X.env) fp) elt te) (hs : ∀ x, foldedSetIterable itr X.env x = pure x) :
    PE X (.SetComp elt [⟨tg, itr, cnd, 0⟩] scp pos) (tCm (fun D => SetS X.prog X.w D []) wi gg tt (tiS X.prog X.w te) (own.map (·.2))) := by
  refine ⟨fun pns s σ H Q I h => ?_⟩
  rw [PpSet.eval_SetComp]
  refine cm_core cmk_set hc hN I hi ok (fun s H _ => setS_ok (setS_fresh X.w)) rfl hg ht ?_ hs h
  intro sB HB C cl fp ps D σ2 H2 s2 Nx P E I2 hti hP
  refine thnF ((he sB HB C cl fp).run ps s2 σ2 H2 _ I2 hti) fun z s3 ⟨y, H3, I3, r3, k, L, ey, hD, hl, nx⟩ => ?_
  subst ey
  obtain ⟨tk, rfl⟩ := (show ∃ t, z = Value.str k t from r3)
  have R : SetAtS X.prog X.w s3.heap D L := (I3.hok D _ hD).1
  refine setS_add R hl fun h2 same new => ?_
  have ⟨o, _, _, _, _, ho, _⟩ := new
  exact hP _ _ (I3.write (e := D) (t' := s3.toks + 1) (by rw [hD]; trivial) (.inl rfl) (fun b u hb hu => (same.2 b hb).trans hu) ⟨o, ho⟩ (setS_ok new)) nx
def rSortS (P : Program) (w : World) : List V → Hp → VK → Prop := fun vs H Q => ∃ a L, vs = [.ref a] ∧ H a = some (SetS P w a L) ∧ L.length ≤ sizeLine ∧ ∀ p, H p = none → Q (.ref p) (upd H p (.lst ((sortS L).map V.str)))
theorem cr_sortS (hc : X.calm = true) (hu : X.A.units + 64 < cLine) : CallR X (.builtin "sorted") (rSortS X.prog X.w) := by
  intro pns s σ H vs us Q I r h
  obtain ⟨a, L, rfl, ha, hL, q⟩ := h
  rw [Vals.ref1 r]
  have R : SetAtS X.prog X.w s.heap a L := (I.hok a _ ha).1
  refine setS_sorted R (I.ok.hd hc) (by omega) fun s2 p out c k g2 o2 hp hg hout => ?_
  have hn : H p = none := I.hok.fresh hp
  have hv : Vals ((sortS L).map V.str) out.toList := by
    have key : ∀ {vs : List Value} {xs : List Str}, PySem.W.EachIs (fun v x => ∃ t, v = Value.str x t) vs xs → Vals (xs.map V.str) vs := fun h => by
      induction h with
      | nil => exact .nil
      | cons p q ih =>
        obtain ⟨t, rfl⟩ := p
        exact .cons ⟨t, rfl⟩ ih
    exact key hout
  have hlen : ((sortS L).map V.str).length ≤ sizeLine := by rw [List.length_map, (sortS_perm L).length_eq]; exact hL
  exact ⟨.ref p, upd H p (.lst ((sortS L).map V.str)), I.call' (ch := []) o2 (Un.laid k hp hn) (I.hok.laid k hp ⟨hlen, out.toList, c, hv, hg⟩) (by rw [g2]; exact I.bare) (fun _ z => nomatch z), rfl, q p hn⟩
end TW
namespace TW
open PySem PySem.Spec PyProof.Rows L2
variable {X : Cx} {g : Gx} {tg : Expr}
/-- what was hidden comes to light as it is -/
theorem Rel.bare {K : PySem.W.Frag} {m : Mp} {st : Sto} {H : Hp} {p : Addr} (r : Rel K ⟨m.ad, p :: m.hid⟩ st H) : Rel K m st H ∧ Same (hm ⟨m.ad, p :: m.hid⟩ H) (hm m H) := by
  have sm : Same (hm ⟨m.ad, p :: m.hid⟩ H) (hm m H) := fun a o h => by
    obtain ⟨h1, h2⟩ := hm_some.mp h
    exact hm_some.mpr ⟨⟨h1.1, fun z => h1.2 (List.mem_cons_of_mem _ z)⟩, h2⟩
  refine ⟨⟨r.len, r.nd, fun i o a h1 h2 => ?_, fun a ha => r.hd a (List.mem_cons_of_mem _ ha)⟩, sm⟩
  obtain ⟨u, e, q⟩ := r.get i o a h1 h2
  exact ⟨u, e, q.mono sm⟩
theorem reps_strs {K : PySem.W.Frag} {H : Hp} : ∀ {L : List Str}, (∀ z ∈ L, z.length ≤ sizeLine ∧ PyData.strOk z = true) → RepDs K H (L.map D.str) (L.map V.str)
  | [], _ => .nil
  | z :: L, h => .cons (by simp only [RepD]; exact ⟨trivial, h z (by simp)⟩) (reps_strs fun y hy => h y (List.mem_cons_of_mem _ hy))
theorem lf_srtc {elt itr : Expr} {cnd : List Expr} {scp : Scope} {own : List (Str × Nat)} {p pos pos2 : Pos} {fi : En → Sto → R Wl} {fg : Vv → En → Sto → R En} {ft : En → Sto → R Bool} {fe : En → Sto → R Vv} (hK : g.K = X.K) (hc : X.calm = true) (hN : X.N.Nodup) (hu : X.A.units + 64 < cLine)
    (hgl : Gl X "sorted") (hmg : X.mg "sorted" = none) (hi : PI X tg itr (LI g fi)) (ok : BlkOk X.N X.env.scope scp own)
    (hg : ∀ (s : Shared) (H : Hp) (C : Addr) (cl : List (Str × Addr)) (fp : List Addr), PG (X.blk s H scp (compEnvC scp cl C X.env) fp) tg (LG g.quiet (· ∈ own.map (·.2)) fg))
    (ht : ∀ (s : Shared) (H : Hp) (C : Addr) (cl : List (Str × Addr)) (fp : List Addr), PTs (X.blk s H scp (compEnvC scp cl C X.env) fp) cnd (LT g.quiet ft))
    (he : ∀ (s : Shared) (H : Hp) (C : Addr) (cl : List (Str × Addr)) (fp : List Addr), PE (X.blk s H scp (compEnvC scp cl C X.env) fp) elt (LE g.quiet fe)) (hs : ∀ x, foldedSetIterable itr X.env x = pure x) :
    PE X (.Call (.Name "sorted" p) [.SetComp elt [⟨tg, itr, cnd, 0⟩] scp pos2] [] pos) (LF g fun en st => (fi en st).bind fun w st => ((scLoop w.pins (fun x en st => fg (.d x) en st) ft fe (wipeE en (own.map (·.2))) w.xs [] st).calm).bind fun L st => .ok (.d (.lst ((sortS L).map D.str))) st) := by
  refine pe_weak (pe_callB (cr_sortS hc hu) hgl hmg (by decide +kernel) (pa_cons (pe_scS hc hN hi ok hg ht he hs) pa_nil)) ?_
  rintro σ H Q ⟨m, en, st, rel, re, out⟩
  generalize hown : own.map (·.2) = ow at *
  refine ⟨m, en, st, rel, re, OutF.bind out fun w st1 m1 H1 J e1 x1 l1 wk o1 => ?_⟩
  obtain ⟨xs, ps⟩ := w
  dsimp only at o1
  intro D hD
  have re1 := (re.ext x1).wipe ow
  have nD : D ∉ m1.hid := (l1.fresh_ne hD).2
  refine ⟨fun i k Hk => k = xs.length - i ∧ i ≤ xs.length ∧ ∃ (mk : Mp) (sk : Sto) (acc : List Str), mk.hid = D :: m1.hid ∧ (∃ t, mk.ad = m1.ad ++ t) ∧ (∀ a ∈ m1.hid, Hk a = H1 a) ∧ Fz H1 Hk ∧ Same (hm m1 H1) (TW.hm mk Hk) ∧ Rel g.K mk sk Hk ∧
      Hk D = some (SetS X.prog X.w D acc) ∧ (∀ z ∈ acc, z.length ≤ sizeLine ∧ PyData.strOk z = true) ∧ acc.length ≤ 4000 ∧ OutF g m1 H1 σ Q (((scLoop ps (fun x en st => fg (.d x) en st) ft fe (wipeE en ow) (xs.drop i) acc sk).calm).bind fun L st => .ok (.d (.lst ((sortS L).map TW.D.str))) st), ⟨xs.length, ?_⟩, ?_⟩
  · obtain ⟨h1, h2⟩ := l1.hide (o := SetS X.prog X.w D []) hD (fun _ z => nomatch z)
    refine ⟨by simp, Nat.zero_le _, ⟨m1.ad, D :: m1.hid⟩, st1, [], rfl, ⟨[], by simp⟩, fun a ha => upd_ne fun e => nD (e ▸ ha), fun a ob u h => by rw [upd_ne (ne_of_none h hD)]; exact h, by rw [h2]; exact .refl _, h1, upd_same, fun _ z => (nomatch z), by simp, by simpa using o1⟩
  · rintro i k Hk ⟨rfl, hi, mk, sk, acc, hh, ⟨t, had⟩, hkeep, hfz, hsame, hrel, hHD, hacc, hal, ho⟩
    by_cases hlt : i < xs.length
    · have hx : xs[i]? = some xs[i] := List.getElem?_eq_getElem hlt
      rw [List.drop_eq_getElem_cons hlt] at ho
      simp only [scLoop] at ho
      split at ho
      case isFalse => exact ho.elim
      rename_i hpin
      have hDm : D ∈ mk.hid := by rw [hh]; simp
      refine .inr ⟨wk.go mk Hk sk ⟨⟨t, had⟩, hfz⟩ hsame hrel hpin i _ hx, fun H' => ∃ (mk : Mp) (sk : Sto) (acc : List Str), mk.hid = D :: m1.hid ∧ (∃ t, mk.ad = m1.ad ++ t) ∧ (∀ a ∈ m1.hid, H' a = H1 a) ∧ Fz H1 H' ∧ Same (hm m1 H1) (TW.hm mk H') ∧ Rel g.K mk sk H' ∧
        H' D = some (SetS X.prog X.w D acc) ∧ (∀ z ∈ acc, z.length ≤ sizeLine ∧ PyData.strOk z = true) ∧ acc.length ≤ 4000 ∧ OutF g m1 H1 σ Q (((scLoop ps (fun x en st => fg (.d x) en st) ft fe (wipeE en ow) (xs.drop (i + 1)) acc sk).calm).bind fun L st => .ok (.d (.lst ((sortS L).map TW.D.str))) st), fun H' p' => ⟨xs.length - (i + 1), by omega, rfl, by omega, p'⟩, fun x H' hy => ?_⟩
      obtain ⟨y1, y2, y3⟩ := wk.yld mk Hk sk ⟨⟨t, had⟩, hfz⟩ hsame hrel hpin i _ x H' hx hy
      have hs1 : Same (hm m1 H1) (hm mk H') := hsame.trans y1.same
      have k1 : ∀ a ∈ m1.hid, H' a = H1 a := fun a ha => (y1.keep a (by rw [hh]; exact List.mem_cons_of_mem _ ha)).trans (hkeep a ha)
      refine ⟨mk, wipeE en ow, sk, .d xs[i], y2, re1.sub ⟨t, had⟩ hs1, y3, ?_⟩
      cases hg1 : fg (.d xs[i]) (wipeE en ow) sk with
      | stuck => rw [hg1] at ho; exact ho.elim
      | exc _ _ => rw [hg1] at ho; exact ho.elim
      | ok en2 s2 =>
        rw [hg1, bind_ok] at ho
        intro m2 H2 σ2 x2 l2 r2 ag
        refine ⟨wipe_wipe_agree ag, m2, en2, s2, l2, r2, ?_⟩
        cases ht1 : ft en2 s2 with
        | stuck => rw [ht1] at ho; exact ho.elim
        | exc _ _ => rw [ht1] at ho; exact ho.elim
        | ok k s3 =>
          rw [ht1, bind_ok] at ho
          intro m3 H3 k' x3 l3 hk'
          subst hk'
          have x13 := x2.trans x3
          have h3 : m3.hid = D :: m1.hid := by rw [x13.hid, hh]
          have ad3 : ∃ t, m3.ad = m1.ad ++ t := by
            obtain ⟨t2, e2⟩ := x13.pre
            exact ⟨t ++ t2, by rw [e2, had]; simp⟩
          have kp3 : ∀ a ∈ m1.hid, H3 a = H1 a := fun a ha => (x13.keep a (by rw [hh]; exact List.mem_cons_of_mem _ ha)).trans (k1 a ha)
          have D3 : H3 D = some (SetS X.prog X.w D acc) := by rw [x13.keep D hDm, y1.keep D hDm]; exact hHD
          have fz3 : Fz H1 H3 := fun a ob u h => x13.frz a ob u (y1.frz a ob u (hfz a ob u h))
          cases k with
          | false => exact ⟨m3, s3, acc, h3, ad3, kp3, fz3, hs1.trans x13.same, l3, D3, hacc, hal, ho⟩
          | true =>
            rw [if_pos rfl] at ho ⊢
            refine ⟨m3, en2, s3, l3, r2.ext x3, ?_⟩
            cases he1 : fe en2 s3 with
            | stuck => rw [he1] at ho; exact ho.elim
            | exc _ _ => rw [he1] at ho; exact ho.elim
            | ok y s4 =>
              rw [he1, bind_ok] at ho
              intro m4 H4 w x4 l4 ry
              split at ho
              · rename_i z
                split at ho
                case isFalse => exact ho.elim
                rename_i hlen
                simp only [RepV, RepD] at ry
                obtain ⟨rfl, z1, z2⟩ := ry
                have h4 : m4.hid = D :: m1.hid := by rw [x4.hid, h3]
                have Dm4 : D ∈ m4.hid := by rw [h4]; simp
                have D4 : H4 D = some (SetS X.prog X.w D acc) := by rw [x4.keep D (by rw [h3]; simp)]; exact D3
                refine ⟨z, acc, rfl, D4, by unfold scanBound; omega, ?_⟩
                obtain ⟨q1, q2⟩ := l4.hput (SetS X.prog X.w D (addK acc z)) (fun _ z => nomatch z) Dm4
                refine ⟨m4, s4, addK acc z, h4, ?_, fun a ha => ?_, fun a ob u h => by rw [upd_ne (ne_of_none h hD)]; exact x4.frz a ob u (fz3 a ob u h), ?_, q1, upd_same, fun y hy => ?_, by have := addK_len acc z; omega, ho⟩
                · obtain ⟨t3, e3⟩ := ad3
                  obtain ⟨t4, e4⟩ := x4.pre
                  exact ⟨t3 ++ t4, by rw [e4, e3]; simp⟩
                · have ne : a ≠ D := fun e => nD (e ▸ ha)
                  rw [upd_ne ne]
                  exact (x4.keep a (by rw [h3]; exact List.mem_cons_of_mem _ ha)).trans (kp3 a ha)
                · rw [q2]
                  exact (hs1.trans x13.same).trans x4.same
                · rcases addK_mem.mp hy with rfl | hy
                  · exact ⟨z1, z2⟩
                  · exact hacc y hy
              · exact ho.elim
    · have hi2 : i = xs.length := by omega
      subst hi2
      rw [List.drop_length] at ho
      simp only [scLoop] at ho
      split at ho
      case isFalse => exact ho.elim
      rename_i hpin
      refine .inl ⟨wk.stop mk Hk sk ⟨⟨t, had⟩, hfz⟩ hsame hrel hpin, D, acc, rfl, hHD, by rw [sizeLine_eq]; omega, fun p hp => ?_⟩
      have e : mk = ⟨mk.ad, D :: m1.hid⟩ := by rw [← hh]
      rw [e] at hrel hsame
      obtain ⟨q1, q2⟩ := Rel.bare (m := ⟨mk.ad, m1.hid⟩) hrel
      exact ho ⟨mk.ad, m1.hid⟩ Hk ((sortS acc).map V.str) p ⟨⟨t, had⟩, rfl, hkeep, hsame.trans q2, hfz⟩ q1 (reps_strs fun z hz => hacc z ((sortS_perm acc).mem_iff.mp hz)) (by rw [List.length_map, (sortS_perm acc).length_eq, sizeLine_eq]; omega) hp
end TW
namespace TW
open PySem PySem.Spec PyProof.Rows L2
variable {X : Cx} {g : Gx} {pos : Pos} {a : Expr} {fa : En → Sto → R Vv}
/-! ### dicts: d[k], k in d, {}, the keys -/
theorem le_dget (hu : X.A.units + 1 < cLine) {o i : Expr} {fo fi : En → Sto → R Vv} (ho : PE X o (LE g fo)) (hi : PE X i (LE g fi)) (hs : NoSl i) : PE X (.Subscript o i pos) (LE g fun en st => (fo en st).bind fun x st => (fi en st).bind fun y st => kDget x y st) := by
  refine pe_weak (pe_dget hu ho hi hs) ?_
  rintro σ H Q ⟨m, en, st, rel, re, out⟩
  refine ⟨m, en, st, rel, re, Out.bind out fun x st1 m1 H1 v e1 x1 l1 rx o1 => ?_⟩
  refine ⟨m1, en, st1, l1, re.ext x1, Out.bind o1 fun y st2 m2 H2 w e2 x2 l2 ry o2 => ?_⟩
  unfold kDget at o2
  split at o2
  · rename_i d hd
    obtain ⟨a, rfl, _, o, gt, lk⟩ := dlook_at l2 (rx.ext x2) ry hd
    obtain ⟨v0, rfl, rv⟩ := lk
    exact ⟨a, v0, rfl, gt, o2 m2 H2 v0 .refl l2 rv⟩
  · exact o2.elim
def rDin (K : PySem.W.Frag) (neg : Bool) : R2 := fun y x H Q => ∃ m st a b, Rel K m st H ∧ RepV K m H a y ∧ RepV K m H b x ∧ ∃ r, dlook b a st = some r ∧ Q (.bl (if neg = true then !r.isSome else r.isSome)) H
theorem op_din (hu : X.A.units + 1 < cLine) (neg : Bool) : OpR X (compareOp (if neg = true then .NotIn else .In)) (rDin X.K neg) := by
  intro pins s σ H x y v w Q I rx ry h
  obtain ⟨m, st, a, b, rel, ra, rb, r, e, q⟩ := h
  obtain ⟨p, rfl, _, o, gt, lk⟩ := dlook_at rel rb ra e
  cases ry
  have hs : o.isSome = r.isSome := by
    rcases lk.getD with ⟨d, v0, rfl, rfl, _⟩ | ⟨rfl, rfl⟩ <;> rfl
  cases neg with
  | true =>
    rw [if_pos rfl] at q
    exact d_notIn hu I gt rx fun s' I' => ⟨.bl (!o.isSome), H, I', rfl, by rw [hs]; exact q⟩
  | false =>
    rw [if_neg (by decide)] at q
    exact d_in hu I gt rx fun s' I' => ⟨.bl o.isSome, H, I', rfl, by rw [hs]; exact q⟩
theorem le_din (hK : g.K = X.K) (hu : X.A.units + 1 < cLine) (neg : Bool) {o : Expr} {fo : En → Sto → R Vv} (ha : PE X a (LE g fa)) (ho : PE X o (LE g fo)) (hm : behindInMarks (if neg = true then .NotIn else .In) o = false) :
    PE X (.Compare a [if neg = true then .NotIn else .In] [o] pos) (LE g fun en st => (fa en st).bind fun y st => (fo en st).bind fun x st => kDin neg y x st) := by
  refine pe_weak (pe_cmpR (op_din hu neg) ha ho hm) ?_
  rintro σ H Q ⟨m, en, st, rel, re, out⟩
  refine ⟨m, en, st, rel, re, Out.bind out fun x st1 m1 H1 v e1 x1 l1 rx o1 => ?_⟩
  refine ⟨m1, en, st1, l1, re.ext x1, Out.bind o1 fun y st2 m2 H2 w e2 x2 l2 ry o2 => ?_⟩
  unfold kDin at o2
  split at o2
  · rename_i r hd
    rw [← hK]
    exact ⟨m2, st2, x, y, l2, rx.ext x2, ry, r, hd, o2 m2 H2 _ .refl l2 (by simp only [RepV, RepD])⟩
  · exact o2.elim
theorem lt_din (hK : g.K = X.K) (hu : X.A.units + 1 < cLine) (neg : Bool) {o : Expr} {fo : En → Sto → R Vv} (ha : PE X a (LE g fa)) (ho : PE X o (LE g fo)) (hm : behindInMarks (if neg = true then .NotIn else .In) o = false) :
    PT X (.Compare a [if neg = true then .NotIn else .In] [o] pos) (LT g (tt fun en st => (fa en st).bind fun y st => (fo en st).bind fun x st => kDin neg y x st)) := by
  refine pt_weak (pt_cmpR (op_din hu neg) ha ho hm) ?_
  rintro σ H Q ⟨m, en, st, rel, re, out⟩
  unfold tt at out
  simp only [bind_assoc] at out
  refine ⟨m, en, st, rel, re, Out.bind out fun x st1 m1 H1 v e1 x1 l1 rx o1 => ?_⟩
  refine ⟨m1, en, st1, l1, re.ext x1, Out.bind o1 fun y st2 m2 H2 w e2 x2 l2 ry o2 => ?_⟩
  unfold kDin at o2
  split at o2
  · rename_i r hd
    rw [← hK]
    exact ⟨m2, st2, x, y, l2, rx.ext x2, ry, r, hd, _, rfl, o2 m2 H2 _ .refl l2 rfl⟩
  · exact o2.elim
theorem le_dnew (t : Bool) : PE X (.Dict [] [] pos) (LE g fun _ st => newD t st) := by
  cases t with
  | true =>
    refine pe_weak pe_dnewT ?_
    rintro σ H Q ⟨m, en, st, rel, re, out⟩ p hp
    obtain ⟨r, x⟩ := rel.new (o := .dT []) (ob := .dT false []) hp ⟨[], rfl, .nil⟩
    exact out _ _ _ x r ⟨p, by rw [← rel.len]; simp, rfl⟩
  | false =>
    refine pe_weak pe_dnewK ?_
    rintro σ H Q ⟨m, en, st, rel, re, out⟩ p hp
    obtain ⟨r, x⟩ := rel.new (o := .dK []) (ob := .dK false []) hp ⟨[], rfl, .nil⟩
    exact out _ _ _ x r ⟨p, by rw [← rel.len]; simp, rfl⟩
/-! the keys, walked -/
theorem rep_pair {K : PySem.W.Frag} {m : Mp} {st : Sto} {H : Hp} (rel : Rel K m st H) {k : Str × Str} {q : Addr} (ok : okP k) (h : H q = some (.tup ((kP k).map kV))) : RepD K (hm m H) (pD k) (.ref q) := by
  have ho := rel.open h
  unfold pD
  simp only [RepD]
  refine ⟨q, _, rfl, .inl (.inl ho), by simp [sizeLine_eq], ?_, fun _ => ho⟩
  refine .cons ?_ (.cons ?_ .nil)
  · simp only [RepD]; exact ⟨rfl, ok.1⟩
  · simp only [RepD]; exact ⟨rfl, ok.2⟩
theorem RepK.at {K : PySem.W.Frag} {H : Hp} {κ κ' : Type} {f : κ → κ'} {ok : κ → Prop} {kvs : List (κ × D)} {us : List (κ' × V)} (h : RepK K H f ok kvs us) {i : Nat} {p : κ × D} (e : kvs[i]? = some p) : ∃ u, us[i]? = some u ∧ u.1 = f p.1 ∧ ok p.1 ∧ RepD K H p.2 u.2 := by
  induction h generalizing i with
  | nil => simp at e
  | cons h t ih =>
    cases i with
    | zero => simp at e; subst e; exact ⟨_, rfl, h⟩
    | succ j => simpa using ih (by simpa using e)
theorem wk_keysT {K : PySem.W.Frag} {m0 : Mp} {H0 : Hp} {d : Addr} {od : Obj} {us : List (List Key × V)} {kvs : List ((Str × Str) × D)} (hd : H0 d = some (.frz od (.dT us))) (rk : RepK K (hm m0 H0) kP okP kvs us) : Wk K m0 H0 ⟨kvs.map fun p => pD p.1, []⟩ (Itkt d od us) where
  stop m H st t x rel k := ⟨t.2 _ _ _ hd, by rw [List.length_map, rk.len]; exact Nat.le_refl _⟩
  go m H st t x rel k i e he := ⟨t.2 _ _ _ hd, by
    have := (List.getElem?_eq_some_iff.mp he).1
    rw [List.length_map, rk.len] at this
    exact this⟩
  yld m H st t x rel k i e y H' he hy := by
    obtain ⟨rfl, kk, v, q, h1, rfl, h3⟩ := hy
    rw [List.getElem?_map] at he
    obtain ⟨p, hp, rfl⟩ := Option.map_eq_some_iff.mp he
    obtain ⟨u, hu, e1, ok, _⟩ := rk.at hp
    rw [h1] at hu
    cases hu
    have e1 : kk = kP p.1 := e1
    subst e1
    exact ⟨.refl, rel, rep_pair rel ok h3⟩
theorem wk_keysK {K : PySem.W.Frag} {m0 : Mp} {H0 : Hp} {d : Addr} {od : Obj} {us : List (Key × V)} {kvs : List (Str × D)} (hd : H0 d = some (.frz od (.dK us))) (rk : RepK K (hm m0 H0) kS okS kvs us) : Wk K m0 H0 ⟨kvs.map fun p => D.str p.1, []⟩ (Itk d od us) where
  stop m H st t x rel k := ⟨t.2 _ _ _ hd, by rw [List.length_map, rk.len]; exact Nat.le_refl _⟩
  go m H st t x rel k i e he := ⟨t.2 _ _ _ hd, by
    have := (List.getElem?_eq_some_iff.mp he).1
    rw [List.length_map, rk.len] at this
    exact this⟩
  yld m H st t x rel k i e y H' he hy := by
    obtain ⟨rfl, kk, v, h1, rfl⟩ := hy
    rw [List.getElem?_map] at he
    obtain ⟨p, hp, rfl⟩ := Option.map_eq_some_iff.mp he
    obtain ⟨u, hu, e1, ok, _⟩ := rk.at hp
    rw [h1] at hu
    cases hu
    have e1 : kk = kS p.1 := e1
    subst e1
    exact ⟨.refl, rel, by simp only [RepD]; exact ⟨rfl, ok⟩⟩
theorem li_keys {i : Nat} {x : Str} {tg : Expr} (hN : X.N[i]? = some x) (hv : Vis X.env.scope x) (hd : (x == ("__debug__" : Str)) = false) (hcd : (x == ("__classdict__" : Str)) = false) : PI X tg (.Name x pos) (LI g fun en st => kKeys en[i]? st) := by
  refine pi_weak (pi_keys (pe_var hN hv hd hcd)) ?_
  rintro σ H R ⟨m, en, st, rel, re, out⟩
  dsimp only [kKeys] at out
  split at out
  · rename_i n hn
    obtain ⟨w, e, r⟩ := re.2 i _ hn
    obtain ⟨a, ha, rfl⟩ := r
    refine ⟨.ref a, e, ?_⟩
    split at out
    · rename_i kvs hk
      obtain ⟨u, hu, us, z, rk⟩ := rel.get _ _ _ hk ha
      obtain ⟨od, rfl⟩ := (show ∃ ob, u = .frz ob _ from z)
      exact ⟨a, od, rfl, .inr ⟨us, hu, out m H _ .refl rel (wk_keysT hu rk)⟩⟩
    · rename_i kvs hk
      obtain ⟨u, hu, us, z, rk⟩ := rel.get _ _ _ hk ha
      obtain ⟨od, rfl⟩ := (show ∃ ob, u = .frz ob _ from z)
      exact ⟨a, od, rfl, .inl ⟨us, hu, out m H _ .refl rel (wk_keysK hu rk)⟩⟩
    · exact out.elim
  · exact out.elim
theorem upd_comm {H : Hp} {p d : Addr} {u w : HO} (h : p ≠ d) : upd (upd H p w) d u = upd (upd H d u) p w := by
  funext b
  unfold upd
  by_cases h1 : b = d
  · subst h1
    rw [if_pos rfl, if_neg (Ne.symm h), if_pos rfl]
  · rw [if_neg h1, if_neg h1]
theorem lf_lock {i : Nat} {f : En → Sto → R Vv} (h : PE X a (LF g f)) : PE X a (LF g (lockE i f)) := by
  refine pe_weak (pe_lock h) ?_
  rintro σ H Q ⟨m, en, st, rel, re, out⟩
  unfold lockE at out
  split at out
  · rename_i n hn
    obtain ⟨w, e, r⟩ := re.2 i _ hn
    obtain ⟨d, ha, rfl⟩ := r
    split at out
    · rename_i o ho
      split at out
      · rename_i hf
        rw [Bool.and_eq_true] at hf
        obtain ⟨u, hu, hr⟩ := rel.get _ _ _ ho ha
        have mu : Mut (some u) := by
          cases o with
          | lst _ => exact nomatch hf.1
          | dT lk kvs =>
            obtain ⟨us, z, _⟩ := hr
            have : lk = false := by simpa [MO.free] using hf.2
            subst this
            have : u = .dT us := z
            subst this; trivial
          | dK lk kvs =>
            obtain ⟨us, z, _⟩ := hr
            have : lk = false := by simpa [MO.free] using hf.2
            subst this
            have : u = .dK us := z
            subst this; trivial
        refine ⟨d, u, hu, mu, fun od => ?_⟩
        obtain ⟨l1, x1⟩ := rel.lock ha ho hf.2 hf.1 hu od
        refine ⟨m, en, st.set n (o.lk true), l1, re.ext x1, ?_⟩
        cases hv : f en (st.set n (o.lk true)) with
        | stuck => rw [hv] at out; exact out.elim
        | exc _ _ => rw [hv] at out; exact out.elim
        | ok v st2 =>
          rw [hv] at out
          have out : OutF g m H σ Q (.ok v (st2.set n (o.lk false))) := out
          have gen : ∀ (m' : Mp) (H' : Hp), Ext m (upd H d (.frz od u)) m' H' → Rel g.K m' st2 H' → H' d = some (.frz od u) ∧ Rel g.K m' (st2.set n (o.lk false)) (upd H' d u) ∧ Ext m H m' (upd H' d u) ∧ hm m' (upd H' d u) = hm m' H' := fun m' H' x' l' => rel.unlock ha ho hf.2 hf.1 hu x' l'
          cases v with
          | ref k =>
            intro m' H' w x' l' rw'
            obtain ⟨g1, g2, g3, g4⟩ := gen m' H' x' l'
            exact ⟨g1, out m' _ w g3 g2 rw'⟩
          | exn k =>
            intro m' H' w x' l' rw'
            obtain ⟨g1, g2, g3, g4⟩ := gen m' H' x' l'
            refine ⟨g1, out m' _ w g3 g2 (RepV.sub rw' ⟨[], by simp⟩ (by rw [g4]; exact .refl _))⟩
          | d z =>
            cases z with
            | lst ds =>
              intro m' H' vs p x' l' rv hl np
              obtain ⟨g1, g2, g3, g4⟩ := gen m' H' x' l'
              have ne : p ≠ d := fun q => by rw [q] at np; rw [g1] at np; cases np
              refine ⟨by rw [upd_ne (Ne.symm ne)]; exact g1, ?_⟩
              rw [upd_comm ne]
              exact out m' _ vs p g3 g2 (by rw [g4]; exact rv) hl (by rw [upd_ne ne]; exact np)
            | _ =>
              intro m' H' w x' l' rw'
              obtain ⟨g1, g2, g3, g4⟩ := gen m' H' x' l'
              exact ⟨g1, out m' _ w g3 g2 (by show RepD _ _ _ _; rw [g4]; exact rw')⟩
      · exact out.elim
    · exact out.elim
  · exact out.elim
/-! ### list(d), sorted(d) -/
def rKey (K : PySem.W.Frag) (srt : Bool) : List V → Hp → VK → Prop := fun vs H Q => ∃ m st x v ds, Rel K m st H ∧ vs = [v] ∧ RepV K m H x v ∧ kDkeys srt x st = .ok (.d (.lst ds)) st ∧
  ∀ m' H' ws p, Ext m H m' H' → Rel K m' st H' → RepDs K (hm m' H') ds ws → ds.length ≤ sizeLine → H' p = none → Q (.ref p) (upd H' p (.lst ws))
theorem reps_keys {K : PySem.W.Frag} {m : Mp} {st : Sto} {H : Hp} (rel : Rel K m st H) : ∀ {kvs : List ((Str × Str) × D)} {us : List (List Key × V)} {bs : List Addr}, RepK K (hm m H) kP okP kvs us → IsKeys H us bs → RepDs K (hm m H) (kvs.map fun p => pD p.1) (bs.map V.ref)
  | _, _, _, .nil, .nil => .nil
  | _, _, _, .cons h t, .cons h2 t2 => by
    refine .cons (rep_pair rel h.2.1 ?_) (reps_keys rel t t2)
    rw [← h.1]
    exact h2
theorem cr_keysL (hc : X.calm = true) : CallR X (.type "list") (rKey X.K false) := by
  intro pins s σ H xs us Q I r h
  obtain ⟨m, st, x, v, ds, rel, rfl, rx, e, q⟩ := h
  unfold kDkeys at e
  split at e
  · split at e
    · split at e
      · rw [if_neg (by decide)] at e
        cases e
        rename_i n _ lk kvs hn hl
        obtain ⟨a, ha, rfl⟩ := rx
        obtain ⟨u, hu, ws, z, rk⟩ := rel.get _ _ _ hn ha
        refine call_list_dT hc pins s σ H _ us Q I r ⟨a, ws, rfl, ofz_rd hu z, fun p bs hp ik => ?_⟩
        exact q m H _ p .refl rel (reps_keys rel rk ik) (by rw [List.length_map, sizeLine_eq]; omega) hp
      · cases e
    · cases e
  · cases e
theorem each_of {K : PySem.W.Frag} {m : Mp} {st : Sto} {H : Hp} (rel : Rel K m st H) : ∀ {kvs : List ((Str × Str) × D)} {us : List (List Key × V)} {bs : List Addr}, RepK K (hm m H) kP okP kvs us → IsKeys H us bs → PySem.W.EachIs (fun u d => ∃ x, RelV x u ∧ RepD K (hm m H) d x) (bs.map Value.ref) (kvs.map fun p => pD p.1)
  | _, _, _, .nil, .nil => .nil
  | _, _, _, .cons h t, .cons h2 t2 => by
    refine .cons ⟨.ref _, rfl, rep_pair rel h.2.1 ?_⟩ (each_of rel t t2)
    rw [← h.1]
    exact h2
/-- what a source tells is gathered, and the heap grows -/
theorem gather {prog : Program} {w : World} {A : Around} {E : Value → Shared → Prop} {s : Shared} {T : String} {r d : Addr} {n : Nat} {P : Nat → Value → Prop} {OK : Heap → Prop} {R : List Value → Shared → Prop} (C : PySem.W.KdlSrc prog w T r d n P OK) (hh : A.handled = none) (ok : OK s.heap) (hn : n ≤ sizeLine)
    (fin : ∀ (h' : Heap) (tk : Nat) (acc : Array Value), (∀ b o, s.heap.get? b = some o → h'.get? b = some o) → s.heap.objs.size ≤ h'.objs.size → ItemsOf P acc n → R acc.toList { s with heap := h', toks := tk }) :
    wpAny (model prog w) A (collect (.ref r)) R E s := by
  have lt := C.there _ ok
  let s0 : Shared := { s with heap := s.heap.push { cls := .type "list", data := .seq ([] : List Value).toArray } }
  have at0 : s0.heap.get? s.heap.objs.size = some { cls := .type "list", data := .seq #[] } := Heap.get?_push_size _ rfl
  have run := PySem.W.kdl_extend (A := A) (s := s0) (R := fun (q : Result) (z : Shared) => q = .ok (.ret (.ref s.heap.objs.size)) ∧ ∃ (h' : Heap) (tk : Nat) (acc : Array Value) (c : Nat), z = { s with heap := h', toks := tk } ∧
      (∀ b o, s.heap.get? b = some o → h'.get? b = some o) ∧ h'.get? s.heap.objs.size = some { cls := .type "list", dict := none, data := .seq acc c, slots := #[] } ∧ ItemsOf P acc n)
    C hh (C.keep _ _ ok fun b _ o e => Heap.get?_push_of_some _ e) s.heap.objs.size (Nat.ne_of_gt lt.1) (Nat.ne_of_gt lt.2) (.ref s.heap.objs.size) 0 at0
    (fun h' tk acc c kp at1 it => ⟨rfl, h', tk, acc, c, rfl, fun b o e => kp b o (Nat.ne_of_lt (Heap.lt_size e)) (Heap.get?_push_of_some _ e), at1, it⟩) hn
  have last : ∀ (z : Shared), (∃ (h' : Heap) (tk : Nat) (acc : Array Value) (c : Nat), z = { s with heap := h', toks := tk } ∧ (∀ b o, s.heap.get? b = some o → h'.get? b = some o) ∧ h'.get? s.heap.objs.size = some { cls := .type "list", dict := none, data := .seq acc c, slots := #[] } ∧ ItemsOf P acc n) →
      wpAny (model prog w) A (do match (← load s.heap.objs.size).data with | .seq xs _ => pure xs.toList | _ => unsupported "internal:collect") R E z := by
    rintro z ⟨h', tk, acc, c, rfl, kp, at1, it⟩
    exact wpAny_bind (wpAny_load at1 (wpAny_pure (fin h' tk acc kp (Nat.le_of_lt (Heap.lt_size at1)) it)))
  unfold collect
  refine wpAny_bind (wpAny_runValue (codeAny_builtin entry_proto_collect' ?_))
  rw [Around.under_plainId PySem.F.plain_proto_collect _]
  show wpAny _ A.in1 (newList [] >>= fun l => again (.builtin "list.__iadd__" ⟨[l, .ref r], []⟩)) _ _ s
  refine wpAny_bind (wpAny_newObj_type (wpAny_pure ⟨plainId_quiet PySem.F.plain_list_iadd _, codeAny_builtin entry_list_iadd' ?_⟩))
  rw [Around.under_plainId PySem.F.plain_list_iadd _]
  refine wpAny_mono run (fun f z x => ?_) fun e z x => ?_
  · cases f with
    | done f =>
      obtain ⟨e, x⟩ := x
      cases e
      exact last z x
    | again c =>
      refine ⟨x.1, codeAny_mono x.2 fun q z2 y => ?_⟩
      obtain ⟨rfl, y⟩ := y
      exact last z2 y
  · exact nomatch x.1
theorem cr_keysS (hc : X.calm = true) (hu : X.A.units + 70 < cLine) : CallR X (.builtin "sorted") (rKey X.K true) := by
  intro pins s σ H xs us Q I r h
  obtain ⟨m, st, x, v, ds, rel, rfl, rx, e, q⟩ := h
  unfold kDkeys at e
  split at e
  · split at e
    · split at e
      · rw [if_pos rfl] at e
        rename_i n _ lk kvs hn hl
        have hz0 : srtD [.lst (kvs.map fun p => pD p.1)] = if srtOk (kvs.map fun p => pD p.1) = true then some (.lst ((kvs.map fun p => pD p.1).mergeSort leP)) else none := rfl
        rw [hz0] at e
        by_cases hs : srtOk (kvs.map fun p => pD p.1) = true
        · rw [if_pos hs] at e
          cases e
          obtain ⟨c1, c2, c3⟩ := srt_ok hs
          obtain ⟨d, ha, rfl⟩ := rx
          obtain ⟨u, hu', ws, z, rk⟩ := rel.get _ _ _ hn ha
          rw [Vals.ref1 r]
          obtain ⟨zl, hsm, ks, pr, o, es, ep, ho, hx, hdt, he, hnn⟩ := (show ObjOk X.prog X.w H s.heap d (.dT ws) from (ofz_rd hu' z).ok I.hok)
          have l1 : es.size = ks.length := size_of_entries he
          have l2 : ws.length = ks.length := Paired.length pr
          have ik := isKeys_of pr
          refine Calls.call_function_entry kind_sorted plain_sorted entry_sorted (args_sorted1 _) ?_
          unfold Builtin.«sorted»
          refine wpAny_bind (m := checkCount "sorted" 1 1 _) (wpAny_pure (wpAny_bind (gather (A := X.A.in1) (kdl_raw hsm hx hdt) (I.ok.hd hc) ho (by omega) fun h' tk acc kp hge it => ?_)))
          have ea : acc.toList = (ks.map fun x => x.2.1).map Value.ref := by
            rw [List.map_map]
            have hl2 : acc.toList.length = ks.length := by rw [Array.length_toList, it.1]; exact l1
            apply List.ext_getElem?
            intro j
            rw [List.getElem?_map]
            cases hj : acc.toList[j]? with
            | none =>
              have h1 := List.getElem?_eq_none_iff.mp hj
              rw [List.getElem?_eq_none (by omega)]
              all_goals rfl
            | some v =>
              obtain ⟨en, hen, hv⟩ := it.2 j v (by rw [← Array.getElem?_toList]; exact hj)
              have qe := entry_at he j
              rw [hen] at qe
              cases hb : ks[j]? with
              | none =>
                rw [hb] at qe
                exact nomatch (show some en = none from qe)
              | some b =>
                rw [hb] at qe
                have e2 : en = entryOfKey (tupleKind (mixKind X.prog X.w)) b := Option.some.inj qe
                rw [hv, e2]
                all_goals rfl
          have hr := each_of rel rk ik
          rw [← ea] at hr
          have hlk : acc.toList.length = kvs.length := by rw [ea, List.length_map, List.length_map, rk.len]; omega
          have hsl : (kvs.map fun p => pD p.1).length ≤ sizeLine := by rw [List.length_map, sizeLine_eq]; omega
          refine wpAny_bind (wpAny_newList ?_ (by rw [hlk, sizeLine_eq]; omega))
          have hoL : (h'.push (seqObj "list" acc.toList.toArray 0)).get? h'.objs.size = some (seqObj "list" acc.toList.toArray 0) := Heap.get?_push_size _ rfl
          refine wpAny_bind (wpAny_holding ?_)
          refine PySem.W.list_sort_data (R := fun u d => ∃ x, RelV x u ∧ RepD X.K (hm m H) d x) (enc := toPyT) (bs := kvs.map fun p => pD p.1) hoL hr ?_ c1 c2 hsl (fun b hb => by have := c3 b hb; show X.A.units + 1 + 1 + _ < cLine; omega) fun out hol hout => ?_
          · refine hr.mono fun u d ⟨x, y1, y2⟩ => ?_
            obtain ⟨as, k, _⟩ := reads_of I d x u (RepD.mono hm_same d x y2) y1
            refine ⟨as, PyProof.Rows.Reads.keeps (fun b o e => Heap.get?_push_of_some _ (kp b o e)) k, fun hm => ?_⟩
            obtain ⟨o', e'⟩ := PyProof.On.reads_mem_get k _ hm
            exact absurd (Heap.lt_size (kp _ _ e')) (Nat.lt_irrefl _)
          · obtain ⟨ws2, k1, k2⟩ := rep_each hout
            obtain ⟨c, hc2⟩ := sortedHeap_at (vs := acc.toList) (out := out.toArray) hoL
            have hn2 : H h'.objs.size = none := I.hok.fresh hge
            have hlen : ws2.length ≤ sizeLine := by rw [← k1.length, List.length_mergeSort]; exact hsl
            refine wpAny_pure ⟨_, rfl, .ref h'.objs.size, upd H h'.objs.size (.lst ws2), I.laid (t' := tk) (fun b u e => ?_) ?_ ⟨hlen, out, c, k2, hc2⟩, rfl, ?_⟩
            · have qq := kp b u e
              have hlt := Heap.lt_size qq
              show (sortedHeap (h'.push (seqObj "list" acc.toList.toArray 0)) h'.objs.size acc.toList out.toArray).get? b = some u
              rw [sortedHeap_old (Nat.ne_of_lt hlt) (by rw [Heap.size_push]; exact Nat.lt_succ_of_lt hlt)]
              exact Heap.get?_push_of_some _ qq
            · exact hge
            · exact q m H ws2 _ .refl rel k1 (by rw [List.length_mergeSort]; exact hsl) hn2
        · rw [if_neg hs] at e
          cases e
      · cases e
    · cases e
  · cases e
theorem lf_dkeys (hK : g.K = X.K) (hc : X.calm = true) (hu : X.A.units + 70 < cLine) (srt : Bool) {x : Str} {p : Pos} {fo : En → Sto → R Vv} (hx : x = if srt = true then "sorted" else "list") (hg : Gl X x) (hm : X.mg x = none) (ha : PE X a (LE g fo)) (hs : noStar a = true) :
    PE X (.Call (.Name x p) [a] [] pos) (LF g fun en st => (fo en st).bind (kDkeys srt)) := by
  have h0 : PE X (.Call (.Name x p) [a] [] pos) (tCB (rKey X.K srt) (tCons (LE g fo) tNil)) := by
    cases srt with
    | true =>
      rw [if_pos rfl] at hx
      subst hx
      exact pe_callB (cr_keysS hc hu) hg hm (by rfl) (pa_cons ha pa_nil (star_cons hs X.env)) (by decide) (by decide) (star_cons hs X.env) rfl
    | false =>
      rw [if_neg (by decide)] at hx
      subst hx
      exact pe_callTy (cr_keysL hc) hg hm (by rfl) (pa_cons ha pa_nil (star_cons hs X.env)) (by decide) (by decide) (star_cons hs X.env) rfl
  refine pe_weak h0 ?_
  rintro σ H Q ⟨m, en, st, rel, re, out⟩
  refine ⟨m, en, st, rel, re, OutF.bind out fun x st1 m1 H1 v e1 x1 l1 rx o1 => ?_⟩
  have key : (∃ ds, kDkeys srt x st1 = .ok (.d (.lst ds)) st1) ∨ kDkeys srt x st1 = .stuck := by
    unfold kDkeys
    split
    · split
      · split
        · split
          · rename_i kvs _ _ _
            have hz0 : srtD [.lst (kvs.map fun p => pD p.1)] = if srtOk (kvs.map fun p => pD p.1) = true then some (.lst ((kvs.map fun p => pD p.1).mergeSort leP)) else none := rfl
            rw [hz0]
            split
            · exact .inl ⟨_, rfl⟩
            · exact .inr rfl
          · exact .inl ⟨_, rfl⟩
        · exact .inr rfl
      · exact .inr rfl
    · exact .inr rfl
  rcases key with ⟨ds, hk⟩ | hk
  · rw [hk] at o1
    rw [← hK]
    exact ⟨m1, st1, x, v, ds, l1, rfl, rx, hk, o1⟩
  · rw [hk] at o1
    exact o1.elim
end TW
namespace TW
open PySem PySem.Spec PyProof.Rows L2
variable {X : Cx} {g : Gx} {pos : Pos}
/-! ### a, b = x, y by a tuple -/
def setAllT : List Nat → List V → L2.St → Option L2.St
  | [], [], σ => some σ
  | i :: is, v :: vs, σ => setAllT is vs (σ.set i (some v))
  | _, _, _ => none
def gNmT (is : List Nat) : TGs := fun vs σ H Q => ∃ σ', setAllT is vs σ = some σ' ∧ Q σ' H
structure NmOk (X : Cx) (p : Str × Pos) (i : Nat) : Prop where
  at_ : X.N[i]? = some p.1
  loc : Loc X.env.scope p.1
  fn : X.fn p.1 = true ∨ X.env.scope.names.lookup p.1 = some .local
def nms (xs : List (Str × Pos)) : List Expr := xs.map fun p => Expr.Name p.1 p.2
theorem pgs_nmT (hN : X.N.Nodup) : ∀ {xs : List (Str × Pos)} {is : List Nat}, Paired (NmOk X) xs is → PGs X (nms xs) (gNmT is)
  | [], [], .nil => by
    refine pgs_weak pgs_nil ?_
    rintro vs σ H Q ⟨σ', e, q⟩
    cases vs with
    | nil => simp only [setAllT, Option.some.injEq] at e; subst e; exact ⟨rfl, q⟩
    | cons _ _ => simp only [setAllT] at e; cases e
  | p :: xs, i :: is, .cons h t => by
    refine pgs_weak (pgs_cons (pg_name hN h.at_ h.loc h.fn) (pgs_nmT hN t) rfl) ?_
    rintro vs σ H Q ⟨σ', e, q⟩
    cases vs with
    | nil => simp only [setAllT] at e; cases e
    | cons v vs =>
      simp only [setAllT] at e
      exact ⟨v, vs, rfl, σ', e, q⟩
theorem setAll_repT {K : PySem.W.Frag} {m : Mp} {H : Hp} : ∀ {is : List Nat} {xs : List Vv} {vs : List V} {en en' : En} {σ : L2.St}, RepVs K m H xs vs → RepE K m H en σ → setAll is xs en = some en' → ∃ σ', setAllT is vs σ = some σ' ∧ RepE K m H en' σ'
  | [], [], _, en, en', σ, .nil, re, e => by simp only [setAll, Option.some.injEq] at e; subst e; exact ⟨σ, rfl, re⟩
  | i :: is, x :: xs, _, en, en', σ, .cons h t, re, e => by
    simp only [setAll] at e
    simp only [setAllT]
    exact setAll_repT t (re.set h i) e
  | [], _ :: _, _, _, _, _, _, _, e => by simp only [setAll] at e; cases e
  | _ :: _, [], _, _, _, _, _, _, e => by simp only [setAll] at e; cases e
theorem setAll_lenT : ∀ {is : List Nat} {xs : List Vv} {en en' : En}, setAll is xs en = some en' → xs.length = is.length
  | [], [], _, _, _ => rfl
  | i :: is, x :: xs, en, en', e => by simp only [setAll] at e; simp [setAll_lenT e]
  | [], _ :: _, _, _, e => by simp only [setAll] at e; cases e
  | _ :: _, [], _, _, e => by simp only [setAll] at e; cases e
theorem nms_star : ∀ xs : List (Str × Pos), (nms xs).all noStar = true
  | [] => rfl
  | p :: xs => by
    simp only [nms, List.map_cons, List.all_cons]
    exact Bool.and_eq_true_iff.mpr ⟨rfl, nms_star xs⟩
theorem ls_parT {xs : List (Str × Pos)} {is : List Nat} {es : List Expr} {k k2 : Nat} {p1 p2 : Pos} {fr : En → Sto → R (List Vv)} (hN : X.N.Nodup) (hc : X.calm = true) (hn : Paired (NmOk X) xs is) (ha : PA X es (LA g fr)) (hz : xs.length ≤ 1000) (hs : swapsWithSole [.Tuple (nms xs) k p1] (.Tuple es k2 p2) pos.line X.env = pure false)
    (hw : swappedStores [.Tuple (nms xs) k p1] (.Tuple es k2 p2) X.env = pure none) :
    PS X (.Assign [.Tuple (nms xs) k p1] (.Tuple es k2 p2) pos) (LS g fun en st => (fr en st).go en fun vs st => match setAll is vs en with | some en => .nx en st | none => .stuck) := by
  have hl : xs.length = is.length := Paired.length hn
  have hlen : (assignEach (nms xs) X.env).length = xs.length := by rw [assign_len]; simp [nms]
  refine ps_weak (ps_asg (pe_tup ha) (pg_tup (n := xs.length) hc (pgs_nmT hN hn) hlen (assign_nostar (nms_star xs) X.env)) hs hw rfl) ?_
  rintro E σ H ⟨m, en, st, rel, re, out⟩
  refine ⟨m, en, st, rel, re, OutS.go out re fun ys st1 m1 H1 vs e1 x1 l1 rx o1 => ?_⟩
  split at o1
  · rename_i en2 he
    have hy := setAll_lenT he
    have hv : ys.length = vs.length := Paired.length rx
    refine ⟨by rw [← hv, hy, ← hl, sizeLine_eq]; omega, fun p hp => ?_⟩
    obtain ⟨σ', h1, h2⟩ := setAll_repT rx (re.ext x1) he
    have e2 := l1.ext_fresh (o := .tup vs) hp
    exact ⟨p, vs, rfl, .inl (.inl upd_same), by omega, σ', h1, o1 m1 _ σ' e2 (l1.fresh hp) (h2.ext e2)⟩
  · exact o1.elim
/-- some name isn't plainly local: no exchange of stores -/
theorem swC_ok {ts vs : List Expr} {k k2 : Nat} {p p2 : Pos} {env : Env} {t : Expr} (ht : t ∈ ts) (hn : ∀ x px, t = .Name x px → env.scope.names.lookup x ≠ some .local) : swappedStores [.Tuple ts k p] (.Tuple vs k2 p2) env = pure none := by
  unfold swappedStores
  simp only
  split
  · rfl
  · split
    · rfl
    · have lt : ∀ f : Expr → Option Str, f t = none → (ts.filterMap f).length < ts.length := fun f hf => fm_lt hf ht
      rw [if_pos]
      rw [Bool.or_eq_true]
      left
      refine bne_iff_ne.mpr (Nat.ne_of_lt (lt _ ?_))
      cases t with
      | Name x px =>
        have h0 := hn x px rfl
        have : (env.kindOf x == some .local) = false := by
          cases hq : env.kindOf x == some .local with
          | false => rfl
          | true =>
            have hq : env.kindOf x = some .local := by simpa using hq
            exact absurd hq h0
        simp only [this, Bool.false_and, Bool.false_eq_true, if_false]
      | _ => rfl
end TW
namespace TW
open PySem PySem.Spec PyProof.Rows L2
variable {X : Cx} {g : Gx} {pos : Pos} {a : Expr} {fa : En → Sto → R Vv}
/-! ### set(xs) within sorted(..), len(..) -/
def rSetL (K : PySem.W.Frag) (P : Program) (w : World) : List V → Hp → VK → Prop := fun vs H Q => ∃ l xs, vs = [.ref l] ∧ SqL K H l (xs.map V.str) ∧ xs.length + 1 < scanBound ∧ ∀ p, H p = none → Q (.ref p) (upd H p (SetS P w p (setOf xs)))
theorem strs_pair : ∀ {xs : List Str} {us : List Value}, Vals (xs.map V.str) us → Paired (fun v x => ∃ t, v = Value.str x t) us xs
  | [], _, h => by cases h; exact .nil
  | x :: xs, _, h => by
    cases h with
    | cons p q =>
      obtain ⟨t, rfl⟩ := (show ∃ t, _ = Value.str x t from p)
      exact .cons ⟨t, rfl⟩ (strs_pair q)
theorem cr_setL (hc : X.calm = true) : CallR X (.type "set") (rSetL X.K X.prog X.w) := by
  intro pns s σ H vs us Q I r h
  obtain ⟨l, xs, rfl, hl, hb, q⟩ := h
  rw [Vals.ref1 r]
  obtain ⟨its, rvv, hi, _⟩ := I.list hl
  refine set_texts (I.ok.hd hc) hi.isList (strs_pair rvv) hb fun h2 tk S kp => ?_
  have hn : H s.heap.objs.size = none := I.hok.fresh (Nat.le_refl _)
  exact ⟨.ref s.heap.objs.size, _, I.laid (t' := tk) kp (Nat.le_refl _) (setS_ok S), rfl, q _ hn⟩
theorem setS_size {P : Program} {w : World} {h : Heap} {a : Addr} {L : List Str} (R : SetAtS P w h a L) : ∃ o zs ep t, h.get? a = some o ∧ o.ExactSet ∧ o.data = .set zs ep t ∧ zs.size = L.length ∧ t.fits zs.size = true ∧ zs.size < scanBound := by
  obtain ⟨o, zs, ep, t, ks, ho, hx, hd, hp, pm, nd, hb, T⟩ := R
  refine ⟨o, zs, ep, t, ho, hx, hd, ?_, T.fits, hb⟩
  have h1 : zs.toList.length = ks.length := Paired.length hp
  rw [← Array.length_toList, h1, pm.length_eq]
def rLenS (P : Program) (w : World) : List V → Hp → VK → Prop := fun vs H Q => ∃ a L, vs = [.ref a] ∧ H a = some (SetS P w a L) ∧ Q (.int (L.length : Nat)) H
theorem cr_lenS : CallR X (.builtin "len") (rLenS X.prog X.w) := by
  intro pns s σ H vs us Q I r h
  obtain ⟨a, L, rfl, ha, q⟩ := h
  rw [Vals.ref1 r]
  have R : SetAtS X.prog X.w s.heap a L := (I.hok a _ ha).1
  obtain ⟨o, zs, ep, t, ho, hx, hd, hz, hf, hb⟩ := setS_size R
  refine call_len_set ho hx hd hf (by unfold scanBound at hb; omega) ?_
  exact ⟨.int (L.length : Nat), H, I.tok _, ⟨_, by rw [hz]⟩, q⟩
theorem strs_len {K : PySem.W.Frag} {H : Hp} : ∀ {xs : List D} {vs : List V} {bs : List Str}, strsD xs = some bs → RepDs K H xs vs → ∀ b ∈ bs, b.length ≤ sizeLine
  | [], _, _, e, h => by simp only [strsD, Option.some.injEq] at e; subst e; exact fun b z => nomatch z
  | .str b :: xs, _, _, e, h => by
    obtain ⟨v, r, rfl, p, q⟩ := h.uncons
    simp only [strsD] at e
    split at e <;> cases e
    simp only [RepD] at p
    have h2 := strs_len (by assumption) q
    intro c hc
    rcases List.mem_cons.mp hc with rfl | hc
    · exact p.2.1
    · exact h2 c hc
  | .non :: xs, _, _, e, h => by simp only [strsD] at e; cases e
  | .int _ :: xs, _, _, e, h => by simp only [strsD] at e; cases e
  | .bl _ :: xs, _, _, e, h => by simp only [strsD] at e; cases e
  | .tup _ :: xs, _, _, e, h => by simp only [strsD] at e; cases e
  | .lst _ :: xs, _, _, e, h => by simp only [strsD] at e; cases e
  | .dct _ _ :: xs, _, _, e, h => by simp only [strsD] at e; cases e
theorem le_setl (hK : g.K = X.K) (hc : X.calm = true) (hu : X.A.units + 64 < cLine) (srt : Bool) {x : Str} {p p2 pos2 : Pos} (hx : x = if srt = true then "sorted" else "len") (hg : Gl X x) (hm : X.mg x = none) (hg2 : Gl X "set") (hm2 : X.mg "set" = none) (ha : PE X a (LE g fa)) (hs : noStar a = true) :
    PE X (.Call (.Name x p) [.Call (.Name "set" p2) [a] [] pos2] [] pos) (LF g fun en st => (fa en st).bind fun x st => op1 (setlD srt) x st) := by
  have h0 : PE X (.Call (.Name "set" p2) [a] [] pos2) (tCB (rSetL X.K X.prog X.w) (tCons (LE g fa) tNil)) :=
    pe_callTy (cr_setL hc) hg2 hm2 (by rfl) (pa_cons ha pa_nil (star_cons hs X.env)) (by decide) (by decide) (star_cons hs X.env) rfl
  have out : ∀ σ H Q (Q' : VK), LF g (fun en st => (fa en st).bind fun x st => op1 (setlD srt) x st) σ H Q → (∀ v H1, (∃ a ss m st, v = .ref a ∧ H1 a = some (SetS X.prog X.w a (setOf ss)) ∧ Rel g.K m st H1 ∧ (setOf ss).length ≤ 4000 ∧ (∀ z ∈ setOf ss, z.length ≤ sizeLine ∧ PyData.strOk z = true) ∧
      OutF g m H1 σ Q (if srt = true then .ok (.d (.lst ((sortS (setOf ss)).map D.str))) st else .ok (.d (.int ((setOf ss).length : Nat))) st)) → Q' v H1) → tCB (rSetL X.K X.prog X.w) (tCons (LE g fa) tNil) σ H Q' := by
    rintro σ H Q Q' ⟨m, en, st, rel, re, o⟩ fin
    refine ⟨m, en, st, rel, re, OutF.bind o fun y st1 m1 H1 v e1 x1 l1 rx o1 => ?_⟩
    unfold op1 at o1
    split at o1
    · rename_i d hd
      have rr := der_rep l1 hd rx
      unfold give at o1
      split at o1
      · rename_i z hz
        unfold setlD at hz
        split at hz
        · rename_i ds
          split at hz
          · rename_i ss hss
            split at hz
            · rename_i hlt
              obtain ⟨q, ws, rfl, h1, l, h2⟩ := rep_lst rr
              obtain ⟨rfl, hok⟩ := strs_rep hss h2
              have hlen : ss.length = ds.length := by have := h2.length; rw [List.length_map] at this; omega
              have hmem : ∀ z ∈ setOf ss, z ∈ ss := by
                have key : ∀ (xs L : List Str) z, z ∈ xs.foldl addK L → z ∈ xs ∨ z ∈ L := by
                  intro xs
                  induction xs with
                  | nil => intro L z hz; exact .inr hz
                  | cons x xs ih =>
                    intro L z hz
                    rcases ih _ z hz with h | h
                    · exact .inl (List.mem_cons_of_mem _ h)
                    · rcases addK_mem.mp h with h | h
                      · exact .inl (by rw [h]; exact List.mem_cons_self)
                      · exact .inr h
                intro z hz
                rcases key ss [] z hz with h | h
                · exact h
                · cases h
              have hcard : (setOf ss).length ≤ ss.length := by have := foldl_addK_len ss []; unfold setOf; simpa using this
              refine ⟨q, ss, rfl, by rw [← hK]; exact h1, by unfold scanBound; omega, fun p hp => ?_⟩
              have e2 := l1.ext_fresh (o := SetS X.prog X.w p (setOf ss)) hp
              refine fin _ _ ⟨p, ss, m1, st1, rfl, upd_same, l1.fresh hp, by omega, fun z hz => ?_, ?_⟩
              · exact ⟨strs_len hss h2 z (hmem z hz), hok z (hmem z hz)⟩
              · have o2 := OutF.ext e2 o1
                cases srt with
                | true => cases hz; exact o2
                | false => cases hz; exact o2
            · cases hz
          · cases hz
        · cases hz
      · exact o1.elim
    · exact o1.elim
  cases srt with
  | true =>
    rw [if_pos rfl] at hx
    subst hx
    refine pe_weak (pe_callB (cr_sortS hc hu) hg hm (by rfl) (pa_cons h0 pa_nil rfl) (by decide) (by decide) rfl rfl) ?_
    intro σ H Q hq
    refine out σ H Q _ hq ?_
    rintro v H1 ⟨b, ss, m, st, rfl, hb, rel, hl, hz, o⟩
    rw [if_pos rfl] at o
    refine ⟨b, setOf ss, rfl, hb, by rw [sizeLine_eq]; omega, fun p hp => ?_⟩
    exact o m H1 _ p .refl rel (reps_strs fun z hz2 => hz z ((sortS_perm _).mem_iff.mp hz2)) (by rw [List.length_map, (sortS_perm _).length_eq, sizeLine_eq]; omega) hp
  | false =>
    rw [if_neg (by decide)] at hx
    subst hx
    refine pe_weak (pe_callB cr_lenS hg hm (by rfl) (pa_cons h0 pa_nil rfl) (by decide) (by decide) rfl rfl) ?_
    intro σ H Q hq
    refine out σ H Q _ hq ?_
    rintro v H1 ⟨b, ss, m, st, rfl, hb, rel, hl, hz, o⟩
    rw [if_neg (by decide)] at o
    exact ⟨b, setOf ss, rfl, hb, o m H1 _ .refl rel (by simp only [RepV, RepD])⟩
end TW
set_option maxHeartbeats 1000000
namespace TW
open PySem PySem.Spec PyProof.Rows L2

/-! ### classes of refusals, over three classes of Python's own -/
structure BaseF (B nw ini : String) (tl : List Value) : Prop where
  ex : ExcBaseFacts B nw ini tl
  pas : ∀ v : Value, refuseLoop v "__setattr__" tl = pure ()
  ob : tl.contains (.type "object") = true
  ne : tl ≠ []
theorem baseV : BaseF "ValueError" "ValueError.__new__" "ValueError.__init__" [.type "ValueError", .type "Exception", .type "BaseException", .type "object"] := ⟨F.excBase_ValueError, F.store_ValueError.passes, by decide +kernel, by simp⟩
theorem baseL : BaseF "LookupError" "LookupError.__new__" "LookupError.__init__" [.type "LookupError", .type "Exception", .type "BaseException", .type "object"] := ⟨F.excBase_LookupError, F.store_LookupError.passes, by decide +kernel, by simp⟩
theorem baseA : BaseF "ArithmeticError" "ArithmeticError.__new__" "ArithmeticError.__init__" [.type "ArithmeticError", .type "Exception", .type "BaseException", .type "object"] := ⟨F.excBase_ArithmeticError, F.store_ArithmeticError.passes, by decide +kernel, by simp⟩
theorem own_has (tl : List Value) (X : String) : ∀ cs : List Addr, (cs.map Value.ref ++ tl).contains (.type X) = tl.contains (.type X)
  | [] => rfl
  | c :: cs => by rw [List.map_cons, List.cons_append, List.contains_cons, own_has tl X cs]; rfl
theorem own_pas {tl : List Value} (h : ∀ v : Value, refuseLoop v "__setattr__" tl = pure ()) (v : Value) : ∀ cs : List Addr, refuseLoop v "__setattr__" (cs.map Value.ref ++ tl) = pure ()
  | [] => h v
  | c :: cs => by rw [List.map_cons, List.cons_append, refuseLoop_ref]; exact own_pas h v cs
/-- what the written part says of the class at C -/
structure OwnC (K : PySem.W.Frag) (C : Addr) (nw : String) (tl : List Value) : Prop where
  cls : ∃ nm q N bs cs sn sub ab col dd k0 k1 k2 k3 k5, K.lookup C = some (excClassObj nm q C N bs (List.map Value.ref cs ++ tl) true sn sub ab col dd k0 k1 k2 k3 k5 nw)
  st : PySem.W.findIn K (.ref C) "__setattr__" = some (some (.builtin "object.__setattr__"))
  sb : PySem.W.subIn K (.ref C) (.type "BaseException") = some true
  ty : PySem.W.typeIn K (.ref C) = some (.type "type")
  kp : PySem.W.keepIn K (.ref C) = true
section
open Builtin Builtin.ObjectAttr
variable {Pr : Program} {w : World} {A : Around} {R : Result → Shared → Prop} {hp : Heap} {g : Array GenState} {dr : Drawn} {t : Nat} {os : OsState} {K : PySem.W.Frag} {x C : Addr} {fv : Array Value} {nm : Str} {tk : Tok} {u : Value} {cd : ClassData}
/-- a field of a refusal that has no dict yet -/
theorem put_first (kin : K.In hp) (hx : hp.get? x = some { cls := .ref C, data := .fields fv }) (hcd : PySem.W.clsIn K C = some cd) (hpas : refuseLoop (.ref x) "__setattr__" cd.mro = pure ()) (hob : cd.mro.contains (.type "object") = true) (hne : cd.mro.isEmpty = false) (hdd : cd.hasDict = true)
    (hno : PySem.W.findIn K (.ref C) nm = some none)
    (hq : ∀ h2 t2 dx, (∀ b o, b ≠ x → hp.get? b = some o → h2.get? b = some o) → hp.objs.size ≤ dx → dx ≠ x → h2.get? x = some { cls := .ref C, dict := some dx, data := .fields fv } → h2.Ns1 dx (fun y => if y = nm then some u else none) → R (.ok (.ret .none)) ⟨h2, g, dr, t2, os⟩) :
    codeAny (model Pr w) A (.call (.builtin "object.__setattr__") ⟨[.ref x, .str nm tk, u], []⟩) R ⟨hp, g, dr, t, os⟩ := by
  have ia : PySem.W.InstAt hp x { cls := .ref C, data := .fields fv } C none := ⟨hx, rfl, rfl, trivial⟩
  have sf := F.store_object
  have xne : x ≠ hp.objs.size := Nat.ne_of_lt (Heap.lt_size hx)
  have isob : PySem.W.Looks (model Pr w) hp (isInstance (.ref x) (.type "object")) true := ia.type.andThen (PySem.W.looks_mroIn kin (by unfold PySem.W.mroIn; rw [hcd, Option.bind_some, if_neg (by rw [hne]; decide), hob]))
  refine codeAny_call_builtin sf.slot.plain sf.entry (@PySem.W.check_slot (model Pr w) _ _ ⟨hp, g, dr, t, os⟩ "object.__setattr__" "object" "__setattr__" (.ref x) [.str nm tk, u] [] _ sf.kind sf.split isob (sf.args (.ref x) (.str nm tk) u) ?_)
  have lm : PySem.W.Looks (model Pr w) hp (mroOf (.ref C)) cd.mro := (PySem.W.looks_clsIn kin hcd).andThen .now
  have lt : PySem.W.Looks (model Pr w) hp (storeTaker? none) none := .now
  have lc : PySem.W.Looks (model Pr w) hp (classData C) cd := PySem.W.looks_clsIn kin hcd
  rw [PySem.W.osa_eq, refuse_eq]
  refine wpAny_bind (wpAny_bind (ia.type.at (wpAny_bind (lm.at ?_))))
  rw [hpas]
  refine wpAny_pure (wpAny_bind (ia.type.at (wpAny_bind ((PySem.W.looks_findIn kin hno).at (wpAny_bind (lt.at ?_))))))
  show wpAny _ _ (storeInOwnDict (.ref x) (.ref C) (.str nm tk) nm u false) _ _ _
  obtain ⟨c1, c2, c3, c4, c5, c6, c7, c8, c9, c10, c11⟩ := cd
  dsimp only at hdd
  subst hdd
  unfold storeInOwnDict ownDictForStores
  repeat (first | with_reducible refine HandSPX.store_in_new ?_ ?_ | with_reducible refine wpAny_loadPart_at hx ?_ | with_reducible refine lc.at ?_ | wp_step)
  · exact ⟨_, #[], _, (Heap.get?_update_ne _ _ _ _ xne.symm).trans (Heap.get?_push_at rfl rfl), rfl, fun e he => absurd he (by simp), fun _ => rfl⟩
  · intro h2 t2 n2 sm
    refine hq h2 t2 hp.objs.size (fun b o hb ho => ?_) (Nat.le_refl _) xne.symm ?_ n2
    · exact (sm.2 b (Nat.ne_of_lt (Heap.lt_size ho))).trans ((Heap.get?_update_ne _ _ _ _ hb).trans (Heap.get?_push_of_some _ ho))
    · exact (sm.2 x xne).trans (Heap.get?_update_self _ (Heap.get?_push_of_some _ hx) rfl)
/-- .. a further field -/
theorem put_more {dx : Addr} {m0 : Str → Option Value} {nl : List Str} (kin : K.In hp) (hx : hp.get? x = some { cls := .ref C, dict := some dx, data := .fields fv }) (hns : hp.Ns1 dx m0) (hw : Within m0 nl) (hz : nl.length ≤ 1000) (hcd : PySem.W.clsIn K C = some cd) (hpas : refuseLoop (.ref x) "__setattr__" cd.mro = pure ())
    (hob : cd.mro.contains (.type "object") = true) (hne : cd.mro.isEmpty = false) (hdd : cd.hasDict = true) (hno : PySem.W.findIn K (.ref C) nm = some none)
    (hq : ∀ h2 t2, (∀ b o, b ≠ dx → hp.get? b = some o → h2.get? b = some o) → h2.Ns1 dx (fun y => if y = nm then some u else m0 y) → R (.ok (.ret .none)) ⟨h2, g, dr, t2, os⟩) :
    codeAny (model Pr w) A (.call (.builtin "object.__setattr__") ⟨[.ref x, .str nm tk, u], []⟩) R ⟨hp, g, dr, t, os⟩ := by
  obtain ⟨oD, _, _, hoD, _, _⟩ := hns.count hw
  have ia : PySem.W.InstAt hp x { cls := .ref C, dict := some dx, data := .fields fv } C (some oD) := ⟨hx, rfl, rfl, hoD⟩
  have sf := F.store_object
  have isob : PySem.W.Looks (model Pr w) hp (isInstance (.ref x) (.type "object")) true := ia.type.andThen (PySem.W.looks_mroIn kin (by unfold PySem.W.mroIn; rw [hcd, Option.bind_some, if_neg (by rw [hne]; decide), hob]))
  refine codeAny_call_builtin sf.slot.plain sf.entry (@PySem.W.check_slot (model Pr w) _ _ ⟨hp, g, dr, t, os⟩ "object.__setattr__" "object" "__setattr__" (.ref x) [.str nm tk, u] [] _ sf.kind sf.split isob (sf.args (.ref x) (.str nm tk) u) ?_)
  have lm : PySem.W.Looks (model Pr w) hp (mroOf (.ref C)) cd.mro := (PySem.W.looks_clsIn kin hcd).andThen .now
  have lt : PySem.W.Looks (model Pr w) hp (storeTaker? none) none := .now
  have lc : PySem.W.Looks (model Pr w) hp (classData C) cd := PySem.W.looks_clsIn kin hcd
  rw [PySem.W.osa_eq, refuse_eq]
  refine wpAny_bind (wpAny_bind (ia.type.at (wpAny_bind (lm.at ?_))))
  rw [hpas]
  refine wpAny_pure (wpAny_bind (ia.type.at (wpAny_bind ((PySem.W.looks_findIn kin hno).at (wpAny_bind (lt.at ?_))))))
  show wpAny _ _ (storeInOwnDict (.ref x) (.ref C) (.str nm tk) nm u false) _ _ _
  obtain ⟨c1, c2, c3, c4, c5, c6, c7, c8, c9, c10, c11⟩ := cd
  dsimp only at hdd
  subst hdd
  unfold storeInOwnDict ownDictForStores
  repeat (first | with_reducible refine OEX.store_in_old hns hw hz ?_ | with_reducible refine wpAny_loadPart_at hx ?_ | with_reducible refine lc.at ?_ | wp_step)
  intro h2 t2 n2 sm
  exact hq h2 t2 (fun b o hb ho => (sm.2 b hb).trans ho) n2
end
section
variable {X : Cx} {pins : List (Addr × Obj)} {σ : L2.St} {H : Hp} {s : Shared} {a C dx : Addr} {f : Str} {y : V} {u : Value} {fs : List (Str × V)} {E : Value → Shared → Prop} {A : Around} {B nw ini : String} {tl : List Value}
/-- the class's record -/
theorem OwnC.info {K : PySem.W.Frag} (b : BaseF B nw ini tl) (o : OwnC K C nw tl) (v : Value) : ∃ cd, PySem.W.clsIn K C = some cd ∧ refuseLoop v "__setattr__" cd.mro = pure () ∧ cd.mro.contains (.type "object") = true ∧ cd.mro.isEmpty = false ∧ cd.hasDict = true := by
  obtain ⟨nm, q, N, bs, cs, sn, sub, ab, col, dd, k0, k1, k2, k3, k5, hC⟩ := o.cls
  refine ⟨{ name := nm, bases := bs, mro := .ref C :: (List.map Value.ref cs ++ tl), ns := N, qualname := q, hasDict := true, slotNames := sn, subclasses := sub, abstract := ab, collection := col, hasDel := false }, by unfold PySem.W.clsIn; rw [hC] <;> rfl, ?_, ?_, rfl, rfl⟩
  · exact own_pas b.pas v (C :: cs)
  · exact (own_has tl "object" (C :: cs)).trans b.ob
theorem fld_first {Q : Unit → Shared → Prop} (b : BaseF B nw ini tl) (o : OwnC X.K C nw tl) (I : Inv X pins σ H s) (e : H a = some (exo a C none)) (hno : PySem.W.findIn X.K (.ref C) f = some none) (ry : L2.RelV y u)
    (h : ∀ dx s2, H dx = none → dx ≠ a → Inv X pins σ (upd (upd H dx (exd dx [(f, y)])) a (exo a C (some dx))) s2 → Q () s2) : wpAny (model X.prog X.w) A (setAttr (.ref a) f u) Q E s := by
  obtain ⟨cd, r1, r2, r3, r4, r5⟩ := o.info b (.ref a)
  obtain ⟨t1, ho⟩ := exo_at I.hok e
  obtain ⟨hp, g, dr, t, os⟩ := s
  refine PySem.W.set_plain I.kIn (ox := { cls := .ref C, dict := none, data := .fields #[.ref t1, .none, .none, .none, .bool false, .none] }) (od := none) ⟨ho, rfl, rfl, trivial⟩ o.st ?_
  refine put_first I.kIn ho r1 r2 r3 r4 r5 hno (fun h2 tk2 dx k dn dne hx hn => ?_)
  have nH : H dx = none := I.hok.fresh dn
  have nb : ∀ {b : Addr} {o : Obj}, hp.get? b = some o → b ≠ dx := fun {b o} q => Nat.ne_of_lt (Nat.lt_of_lt_of_le (Heap.lt_size q) dn)
  have na : ∀ {b : Addr}, H b = none → b ≠ a := fun {b} n z => by rw [z, e] at n; cases n
  have at2 : ∀ {c : Addr} {v : HO}, H c = some v → v ≠ exo a C none → upd (upd H dx (exd dx [(f, y)])) a (exo a C (some dx)) c = some v := fun {c v} q ne => by
    rw [upd_ne (fun z => by rw [z, e] at q; exact ne (Option.some.inj q).symm), upd_ne (ne_of_none q nH)]; exact q
  have U : Un X.fs [] H (upd (upd H dx (exd dx [(f, y)])) a (exo a C (some dx))) hp h2 := {
    keep := fun b o q n _ _ => k b o (na n) q
    slot := fun b o q n _ _ => ⟨o.slots, k b o (na n) q⟩
    free := fun b o q n _ => by rw [upd_ne (na n), upd_ne (nb q)]; exact n
    there := fun b o q _ => by
      by_cases hb : b = a
      · exact ⟨_, hb ▸ hx⟩
      · exact ⟨o, k b o hb q⟩
    tups := fun b xs q => at2 q (Ne.symm exo_tup)
    frzs := fun b o v q => at2 q (Ne.symm exo_frz)
    tbls := fun b ps q => ⟨#[], by rw [at2 q (Ne.symm exo_tbl)]; simp⟩ }
  refine h dx _ nH dne (I.un (t' := tk2) U fun b o q => ?_)
  by_cases hb : b = a
  · subst hb
    rw [upd_same] at q; cases q
    exact exo_ok hx
  · rw [upd_ne hb] at q
    by_cases hd : b = dx
    · subst hd
      rw [upd_same] at q; cases q
      exact exd_ok hn (relO_put (fs := []) ry fun _ => True.intro)
    · rw [upd_ne hd] at q
      refine (I.hok b o q).stay (fun c v hc z => k c v ?_ z) (fun c hc => at2 hc (Ne.symm exo_own)) (fun c xs hc => at2 hc (Ne.symm exo_tup))
      rcases hc with hc | hc
      · exact hc ▸ hb
      · intro z
        rw [z, e] at hc
        exact exo_own (Option.some.inj hc)
theorem fld_more {Q : Unit → Shared → Prop} (b : BaseF B nw ini tl) (o : OwnC X.K C nw tl) (I : Inv X pins σ H s) (e : H a = some (exo a C (some dx))) (ed : H dx = some (exd dx fs)) (hl : fs.length ≤ 900) (hno : PySem.W.findIn X.K (.ref C) f = some none) (ry : L2.RelV y u)
    (h : ∀ s2, Inv X pins σ (upd H dx (exd dx ((f, y) :: fs))) s2 → Q () s2) : wpAny (model X.prog X.w) A (setAttr (.ref a) f u) Q E s := by
  obtain ⟨cd, r1, r2, r3, r4, r5⟩ := o.info b (.ref a)
  obtain ⟨t1, ho⟩ := exo_at I.hok e
  obtain ⟨mA, hns, rel⟩ := exd_at I.hok ed
  have hw := within_of rel
  obtain ⟨hp, g, dr, t, os⟩ := s
  obtain ⟨oD, _, _, hoD, _, _⟩ := hns.count hw
  refine PySem.W.set_plain I.kIn (ox := { cls := .ref C, dict := some dx, data := .fields #[.ref t1, .none, .none, .none, .bool false, .none] }) (od := some oD) ⟨ho, rfl, rfl, hoD⟩ o.st ?_
  refine put_more I.kIn ho hns hw (by rw [List.length_map]; omega) r1 r2 r3 r4 r5 hno (fun h2 tk2 k hn => ?_)
  obtain ⟨o2, _, _, e2, _⟩ := id hn
  exact h _ (I.write (t' := tk2) (x := dx) (e := dx) (o := exd dx ((f, y) :: fs)) (by rw [ed]; exact True.intro) (.inl rfl) k ⟨o2, e2⟩ (exd_ok hn (relO_put ry rel)))
/-- B.__init__(self, ..), B Python's own -/
theorem init_run {us : List Value} {Q : Value → Shared → Prop} (b : BaseF B nw ini tl) (o : OwnC X.K C nw tl) (I : Inv X pins σ H s) (e : H a = some (exo a C none)) (hl : us.length ≤ sizeLine) (h : ∀ s2, Inv X pins σ H s2 → Q .none s2) :
    wpAny (model X.prog X.w) A (call (.builtin ini) (.ref a :: us)) Q E s := by
  obtain ⟨nm, q, N, bs, cs, sn, sub, ab, col, dd, k0, k1, k2, k3, k5, hC⟩ := o.cls
  obtain ⟨t1, ho⟩ := exo_at I.hok e
  obtain ⟨hp, g, dr, t, os⟩ := s
  refine wpAny_call (HandSPX.init_base b.ex (fun Y => own_has tl Y cs) (I.kIn _ _ hC) ho hl fun h2 t2 k hx => ?_)
  have J := I.write (t' := t) (x := a) (e := a) (o := exo a C none) (by rw [e]; exact True.intro) (.inl rfl) k ⟨_, hx⟩ (exo_ok hx)
  have eq : upd H a (exo a C none) = H := by
    funext c
    unfold upd
    split
    · rename_i hc; rw [hc, e]
    · rfl
  rw [eq] at J
  exact h _ J
end
/-! ### the rules for an __init__ -/
/-- Base.__init__(self, ..), Base a class of the program without one of its own -/
def tBinit (K : PySem.W.Frag) (nw : String) (tl : List Value) (ta : TA) : TE := fun σ H Q => ta σ H fun vs H1 => ∃ (a C : Addr) (ws : List V), vs = .ref a :: ws ∧ ws.length ≤ 1000 ∧ OwnC K C nw tl ∧ H1 a = some (exo a C none) ∧ Q .non H1
/-- self.f = e -/
def tFld (K : PySem.W.Frag) (nw : String) (tl : List Value) (f : Str) (to te : TE) : TS := fun D σ H => te σ H fun y H1 => to σ H1 fun x H2 => ∃ a C : Addr, x = .ref a ∧ OwnC K C nw tl ∧ PySem.W.findIn K (.ref C) f = some none ∧
  ((H2 a = some (exo a C none) ∧ ∀ dx, H2 dx = none → dx ≠ a → D.nx σ (upd (upd H2 dx (exd dx [(f, y)])) a (exo a C (some dx)))) ∨
    ∃ (dx : Addr) (fs : List (Str × V)), H2 a = some (exo a C (some dx)) ∧ H2 dx = some (exd dx fs) ∧ fs.length ≤ 900 ∧ D.nx σ (upd H2 dx (exd dx ((f, y) :: fs))))
section
variable {X : Cx} {o e : Expr} {es : List Expr} {to te : TE} {ta : TA} {f bn : Str} {p p1 p2 pos : Pos} {B nw ini : String} {tl : List Value} {Bc : Addr}
theorem pe_binit {pl : Sem Bool} (b : BaseF B nw ini tl) (hg : Gl X bn) (hm : X.mg bn = some (.ref Bc)) (hdb : (bn == ("__debug__" : Str)) = false) (hs : PySem.W.specialIn X.K (.ref Bc) "__getattribute__" = some (some (.builtin "type.__getattribute__"))) (hrd : PySem.W.readsIn X.K Bc (.type "type") = true)
    (hf : PySem.W.findCls X.K (.ref Bc) (.type "type") "__init__" = some (.val (.builtin ini))) (hh : PySem.W.handedIn (.builtin ini) = true) (ha : PA X (e :: es) ta)
    (hc : eval (.Call (.Attribute (.Name bn p1) "__init__" p2) (e :: es) [] pos) X.env = (do
      let ov ← eval (.Name bn p1) X.env
      standAt p2.atName
      let (f, first) ← holding [ov] (getMethod ov "__init__" pl)
      callWith pos f first (backTo pos (starEach (e :: es) X.env)) (backToKw pos (keywordEach [] X.env))) := by rfl)
    (he : starEach (e :: es) X.env = (false, eval e X.env) :: starEach es X.env := by rfl) (hpl : (backTo pos (starEach es X.env)).any (·.1) = false := by rfl) :
    PE X (.Call (.Attribute (.Name bn p1) "__init__" p2) (e :: es) [] pos) (tBinit X.K nw tl ta) := by
  refine ⟨fun pins s σ H Q I h => ?_⟩
  refine PySem.W.methodCall_KW (ld_glob I hg hm ?_ hdb) hc
  refine PySem.W.method_cls I.kIn hs (PySem.W.cls_value I.kIn hrd hf hh ?_)
  refine PyProof.Rows.callWith_method1 (first := []) (thn (ha.run pos pins _ σ H _ (I.tok _) h) fun us s1 ⟨vs, H1, I1, r1, a, C, ws, ev, hl, T, ea, q⟩ => ?_) he hpl
  subst ev
  cases r1 with
  | @cons _ u0 _ ur ra rw' =>
    obtain rfl : u0 = Value.ref a := ra
    exact init_run b T I1 ea (by rw [← Paired.length rw', sizeLine_eq]; omega) fun s2 J => ⟨.non, H1, J, rfl, q⟩
theorem ps_fldX (b : BaseF B nw ini tl) (ho : PE X o to) (he : PE X e te) (hs : swapsWith e (some (.Attribute o f p)) pos.line X.env = pure false := by rfl) : PS X (.Assign [.Attribute o f p] e pos) (tFld X.K nw tl f to te) := by
  refine ⟨fun pins s σ H D I h => ?_⟩
  refine plainObj_wpAny_Assign_Attribute (thn (he.run pins s σ H _ I h) fun v s1 ⟨y, H1, I1, r1, q1⟩ => thn (ho.run pins s1 σ H1 _ I1 q1) fun u s2 ⟨x, H2, I2, r2, a, C, ex, T, hno, q⟩ => ?_) hs
  subst ex
  obtain rfl : u = Value.ref a := r2
  rcases q with ⟨ea, q⟩ | ⟨dx, fs, ea, ed, hl, q⟩
  · exact fld_first b T I2 ea hno r1 fun dx s3 n ne J => ⟨σ, _, J, q dx n ne⟩
  · exact fld_more b T I2 ea ed hl hno r1 fun s3 J => ⟨σ, _, J, q⟩
end
/-! ### C(e, ..) where C has an __init__ -/
section
variable {X : Cx} {e : Expr} {es : List Expr} {ta : TA} {p pos : Pos} {B nw ini : String} {tl : List Value} {C fI : Addr} {x : Str} {k : Nat} {fd : FuncData} {ps : List Str} {sp : Sp}
theorem pmk_x (b : BaseF B nw ini tl) (o : OwnC X.K C nw tl) (hi : PySem.W.findIn X.K (.ref C) "__init__" = some (some (.ref fI))) (ht : PySem.W.typeIn X.K (.ref fI) = some (.type "function")) (FO : FnOk X.prog X.w X.K X.mg X.base CX0 k fI fd ps sp) (hr : Room (k + 1) X.A)
    (hb : L2.Binds X.K fd ps []) (hg : Gl X x) (hm : X.mg x = some (.ref C)) (hdb : (x == ("__debug__" : Str)) = false) (ha : PA X (e :: es) ta) (he : starEach (e :: es) X.env = (false, eval e X.env) :: starEach es X.env) (hpl : (backTo pos (starEach es X.env)).any (·.1) = false) :
    PMk X (.Call (.Name x p) (e :: es) [] pos) (tMkO C sp [] ta) := by
  intro pins s σ H Q I h
  obtain ⟨nm, q, N, bs, cs, sn, sub, ab, col, dd, k0, k1, k2, k3, k5, hC⟩ := o.cls
  refine wpAny_Call_Name_kw (ld_glob I hg hm ?_ hdb)
  refine PySem.W.callWith_K (h₀ := X.base) I.ok.mod.kin o.kp (thn (ha.run pos pins s σ H _ I h) fun us s1 ⟨vs, H1, I1, r1, hz, q1⟩ => ⟨I1.kIn, ?_⟩) he hpl
  show wpAny _ _ (call (.ref C) us) _ _ _
  obtain ⟨hp, g, dr, tk, os⟩ := s1
  -- the place of the new refusal
  have sz : hp.objs.size ≤ hp.objs.size + 1 := Nat.le_succ _
  have fresh : H1 (hp.objs.size + 1) = none := I1.hok.fresh sz
  have want := q1 (hp.objs.size + 1) fresh
  rw [List.append_nil] at want
  obtain ⟨h2, e2⟩ : ∃ h2, h2 = (hp.push (PySem.W.kdv_tup us)).push (HandSPX.excO C hp.objs.size) := ⟨_, rfl⟩
  have kk : ∀ c u, hp.get? c = some u → h2.get? c = some u := fun c u z => by rw [e2]; exact Heap.get?_push_of_some _ (Heap.get?_push_of_some _ z)
  have here : h2.get? (hp.objs.size + 1) = some (HandSPX.excO C hp.objs.size) := by rw [e2]; heap_get
  have J : Inv X pins σ (upd H1 (hp.objs.size + 1) (exo (hp.objs.size + 1) C none)) ⟨h2, g, dr, tk, os⟩ := I1.laid (t' := tk) (o := exo (hp.objs.size + 1) C none) kk sz (exo_ok here)
  have rr : Vals (V.ref (hp.objs.size + 1) :: vs) (Value.ref (hp.objs.size + 1) :: us) := .cons rfl r1
  have ln : (Value.ref (hp.objs.size + 1) :: us).length = ps.length := by rw [← rr.length]; exact FO.len _ _ _ _ want
  have bd := hb ⟨h2, g, dr, tk, os⟩ (Value.ref (hp.objs.size + 1) :: us) J.kIn (by rw [List.append_nil]; exact ln)
  rw [List.append_nil] at bd
  refine wpAny_call (HandSPX.call_own b.ex (fun Y => own_has tl Y cs) (I1.kIn _ _ hC) (PySem.W.looks_findIn I1.kIn hi) (fun v => PySem.W.bind_fn I1.kIn v ht) (by rw [← Paired.length r1, sizeLine_eq]; omega) ?_)
  rw [← e2]
  refine codeAny_mono (FO.run _ X.stack _ _ ⟨Value.ref (hp.objs.size + 1) :: us, []⟩ _ _ _ (fun _ _ _ => False) (hr.make C us []) (J.env0.make C us []) bd rr want) fun r s2 z => ?_
  match r, z with
  | .error er, z => exact z.elim
  | .ok .next, z => exact z.elim
  | .ok .brk, z => exact z.elim
  | .ok .cont, z => exact z.elim
  | .ok (.ret u), ⟨v, H2, os2, bare2, un2, hok2, rv, ev, d, fs, ea, ed, hd1, q2⟩ =>
    subst ev
    obtain ⟨g2, g3, g4, g5, g6⟩ := s2
    exact ⟨rv, mk_end (raises_own o.sb o.ty) I1 sz kk un2 hok2 os2 bare2 ea ed hd1 q2⟩
end
end TW
set_option maxHeartbeats 1000000
namespace TW
open PySem PySem.Spec PyProof.Rows L2

/-! ### an __init__ that keeps its arguments -/
/-- what it promises: the fields in the dict's order -/
def spI (C : Addr) (n : Nat) (mk : List V → List (Str × V)) : Sp := fun vs H Q _ => ∃ a ws, vs = .ref a :: ws ∧ ws.length = n ∧ H a = some (exo a C none) ∧ ∀ dx, H dx = none → dx ≠ a → Q .non (upd (upd H dx (exd dx (mk ws))) a (exo a C (some dx)))
/-- what an __init__ leans on: the class Base whose own is called, the def's place -/
structure BaseN (K : PySem.W.Frag) (mg : Str → Option Value) (bn : Str) (ini : String) : Prop where
  ex : ∃ Bc, mg bn = some (.ref Bc) ∧ PySem.W.specialIn K (.ref Bc) "__getattribute__" = some (some (.builtin "type.__getattribute__")) ∧ PySem.W.readsIn K Bc (.type "type") = true ∧ PySem.W.findCls K (.ref Bc) (.type "type") "__init__" = some (.val (.builtin ini))
  db : (bn == ("__debug__" : Str)) = false
  hh : PySem.W.handedIn (.builtin ini) = true
abbrev sInit (bn txt : Str) (n : Nat) (p1 p2 p3 p4 p5 p6 : Pos) : Stmt := .Expr (.Call (.Attribute (.Name bn p1) "__init__" p2) [.Name "self" p3, .Constant (.str txt) n p4] [] p5) p6
abbrev sFld (f : Str) (p1 p2 p3 p4 : Pos) : Stmt := .Assign [.Attribute (.Name "self" p1) f p2] (.Name f p3) p4
section
variable {Pr : Program} {w : World} {K : PySem.W.Frag} {mg : Str → Option Value} {bs : Heap} {fI C : Addr} {nm ql bn txt f g : Str} {prm : Arguments} {sc : Scope} {dV kV doc pm cdv ct oc : Value} {an od : Option Addr} {osl : Array (Option Value)} {n : Nat} {B nw ini : String} {tl : List Value}
  {p1 p2 p3 p4 p5 p6 q1 q2 q3 q4 r1 r2 r3 r4 : Pos}
theorem vis_of {N ps : List Str} (S : FnScope N ps sc) {x : Str} (h : x ∈ ps) : Vis sc x := (S.par x h).elim .inl fun z => .inr (.inl z)
theorem init_eval {env : Env} (hln : (p2.endLine == p5.line) = true) : eval (.Call (.Attribute (.Name bn p1) "__init__" p2) [.Name "self" p3, .Constant (.str txt) n p4] [] p5) env = (do
      let ov ← eval (.Name bn p1) env
      standAt p2.atName
      let (f, first) ← holding [ov] (getMethod ov "__init__" (plainOf (.Name bn p1) env))
      callWith p5 f first (backTo p5 (starEach [.Name "self" p3, .Constant (.str txt) n p4] env)) (backToKw p5 (keywordEach [] env))) := by
  have key := fun ov => mcall_line (o := .Name bn p1) (m := "__init__") (apos := p2) (pos := p5) (env := env) (ov := ov) (n := 2) (args := backTo p5 (starEach [.Name "self" p3, .Constant (.str txt) n p4] env)) (kws := backToKw p5 (keywordEach [] env)) (by rfl) hln
  show (eval (.Name bn p1) env >>= fun ov => standAt p2.atName >>= fun _ => methodCall (.Name bn p1) "__init__" p2 p5 env ov 2 (backTo p5 (starEach [.Name "self" p3, .Constant (.str txt) n p4] env)) (backToKw p5 (keywordEach [] env))) = _
  congr 1
  funext ov
  rw [key]
theorem init1 (b : BaseF B nw ini tl) (o : OwnC K C nw tl) (bb : BaseN K mg bn ini) (hno : PySem.W.findIn K (.ref C) f = some none)
    (lk : K.lookup fI = some ⟨oc, od, .func (PySem.W.fnOf nm ql prm [sInit bn txt n p1 p2 p3 p4 p5 p6, sFld f q1 q2 q3 q4] sc dV kV doc pm an cdv ct), osl⟩) (hcd : PySem.W.codeIn K cdv ql = true) (S : FnScope ["self", f] ["self", f] sc) (hgl : sc.names.lookup bn = some .globalImplicit)
    (hln : (p2.endLine == p5.line) = true) (d1 : (f == ("__debug__" : Str)) = false) (d2 : (f == ("__classdict__" : Str)) = false) :
    FnOk Pr w K mg bs CX0 1 fI (PySem.W.fnOf nm ql prm [sInit bn txt n p1 p2 p3 p4 p5 p6, sFld f q1 q2 q3 q4] sc dV kV doc pm an cdv ct) ["self", f] (spI C 1 fun ws => [f].zip ws) := by
  refine fn_of lk hcd S (fun vs H Q E ⟨a, ws, e, l, _⟩ => by rw [e]; simp [l]) fun A out s H vs Q E hr hsp => ?_
  obtain ⟨a, ws, rfl, hl, ha, hq⟩ := hsp
  obtain ⟨Bc, b1, b2, b3, b4⟩ := bb.ex
  obtain ⟨w0, rfl⟩ : ∃ w0, ws = [w0] := by
    match ws, hl with
    | [w0], _ => exact ⟨w0, rfl⟩
  have v0 : Vis sc "self" := vis_of S (by simp)
  have v1 : Vis sc f := vis_of S (by simp)
  refine ⟨_, pss_cons (ps_expr (pe_binit (B := B) (nw := nw) (ini := ini) (tl := tl) (Bc := Bc) b hgl b1 bb.db b2 b3 b4 bb.hh (pa_cons (pe_var (i := 0) rfl v0 (by decide) (by decide)) (pa_cons pe_str pa_nil)) (init_eval hln)))
    (pss_one (ps_fldX (B := B) (nw := nw) (ini := ini) (tl := tl) b (pe_var (i := 0) rfl v0 (by decide) (by decide)) (pe_var (i := 1) rfl v1 d1 d2))), ?_⟩
  refine ⟨.ref a, rfl, a, C, [.str txt], rfl, by simp, o, ha, ?_⟩
  exact ⟨w0, rfl, .ref a, rfl, a, C, rfl, o, hno, .inl ⟨ha, fun dx h1 h2 => hq dx h1 h2⟩⟩
theorem upd_swap {H : Hp} {a dx : Addr} {u v z : HO} (h : dx ≠ a) : upd (upd (upd H dx u) a v) dx z = upd (upd H dx z) a v := by
  funext c
  unfold upd
  by_cases h1 : c = dx
  · subst h1
    simp [h]
  · simp [h1]
theorem init2 (b : BaseF B nw ini tl) (o : OwnC K C nw tl) (bb : BaseN K mg bn ini) (hno : PySem.W.findIn K (.ref C) f = some none) (hno2 : PySem.W.findIn K (.ref C) g = some none)
    (lk : K.lookup fI = some ⟨oc, od, .func (PySem.W.fnOf nm ql prm [sInit bn txt n p1 p2 p3 p4 p5 p6, sFld f q1 q2 q3 q4, sFld g r1 r2 r3 r4] sc dV kV doc pm an cdv ct), osl⟩) (hcd : PySem.W.codeIn K cdv ql = true) (S : FnScope ["self", f, g] ["self", f, g] sc) (hgl : sc.names.lookup bn = some .globalImplicit)
    (hln : (p2.endLine == p5.line) = true) (d1 : (f == ("__debug__" : Str)) = false) (d2 : (f == ("__classdict__" : Str)) = false) (d3 : (g == ("__debug__" : Str)) = false) (d4 : (g == ("__classdict__" : Str)) = false) :
    FnOk Pr w K mg bs CX0 1 fI (PySem.W.fnOf nm ql prm [sInit bn txt n p1 p2 p3 p4 p5 p6, sFld f q1 q2 q3 q4, sFld g r1 r2 r3 r4] sc dV kV doc pm an cdv ct) ["self", f, g] (spI C 2 fun ws => ([f, g].zip ws).reverse) := by
  refine fn_of lk hcd S (fun vs H Q E ⟨a, ws, e, l, _⟩ => by rw [e]; simp [l]) fun A out s H vs Q E hr hsp => ?_
  obtain ⟨a, ws, rfl, hl, ha, hq⟩ := hsp
  obtain ⟨Bc, b1, b2, b3, b4⟩ := bb.ex
  obtain ⟨w0, w1, rfl⟩ : ∃ w0 w1, ws = [w0, w1] := by
    match ws, hl with
    | [w0, w1], _ => exact ⟨w0, w1, rfl⟩
  have v0 : Vis sc "self" := vis_of S (by simp)
  have v1 : Vis sc f := vis_of S (by simp)
  have v2 : Vis sc g := vis_of S (by simp)
  refine ⟨_, pss_cons (ps_expr (pe_binit (B := B) (nw := nw) (ini := ini) (tl := tl) (Bc := Bc) b hgl b1 bb.db b2 b3 b4 bb.hh (pa_cons (pe_var (i := 0) rfl v0 (by decide) (by decide)) (pa_cons pe_str pa_nil)) (init_eval hln)))
    (pss_cons (ps_fldX (B := B) (nw := nw) (ini := ini) (tl := tl) b (pe_var (i := 0) rfl v0 (by decide) (by decide)) (pe_var (i := 1) rfl v1 d1 d2))
    (pss_one (ps_fldX (B := B) (nw := nw) (ini := ini) (tl := tl) b (pe_var (i := 0) rfl v0 (by decide) (by decide)) (pe_var (i := 2) rfl v2 d3 d4)))), ?_⟩
  refine ⟨.ref a, rfl, a, C, [.str txt], rfl, by simp, o, ha, ?_⟩
  refine ⟨w0, rfl, .ref a, rfl, a, C, rfl, o, hno, .inl ⟨ha, fun dx h1 h2 => ?_⟩⟩
  refine ⟨w1, rfl, .ref a, rfl, a, C, rfl, o, hno2, .inr ⟨dx, [(f, w0)], upd_same, by rw [upd_ne h2, upd_same], by simp, ?_⟩⟩
  rw [upd_swap h2]
  exact hq dx h1 h2
end
end TW
set_option maxHeartbeats 1000000
namespace TW
open PySem PySem.Spec PyProof.Rows L2

/-! ### try .. except: the refusal that was caught is a thing of the heap -/
/-- the context of an except suite -/
abbrev hotX (X : Cx) (a : Addr) (pn : List (Addr × Obj)) : Cx := { X with A := X.A.mark (some (.ref a)), calm := false, pn := pn, xe := fun _ _ => False }
theorem xob_ok {Pr : Program} {w : World} {H : Hp} {h : Heap} {a : Addr} {cls : Value} {d : Option Addr} {oe : Obj} {vs : Array Value} (e : h.get? a = some oe) (z : Zc cls d oe) (hd : oe.data = .fields vs) : ObjOk Pr w H h a (xob a cls d) :=
  ⟨⟨oe, vs, e, z.1, z.2, hd⟩, ⟨oe, e⟩, fun h1 h2 ⟨o, v, q, r⟩ k => ⟨o, v, k _ q, r⟩⟩
theorem xob_at {Pr : Program} {w : World} {H : Hp} {h : Heap} {a : Addr} {cls : Value} {d : Option Addr} (hok : HOk Pr w H h) (e : H a = some (xob a cls d)) : ∃ oe vs, h.get? a = some oe ∧ oe.cls = cls ∧ oe.dict = d ∧ oe.data = .fields vs := (hok a _ e).1
section
variable {X : Cx} {pins : List (Addr × Obj)} {σ : L2.St} {H : Hp} {s sI s2 : Shared} {a : Addr} {pn : List (Addr × Obj)} {B : Heap} {cls : Value} {d : Option Addr} {oe : Obj} {vs : Array Value}
theorem hot_ok (ok : X.Ok) (a : Addr) (pn : List (Addr × Obj)) : (hotX X a pn).Ok :=
  ⟨ok.mod, ok.kind, ok.glob, ok.blt, ok.above, ok.inj, ok.has, ok.cab, (fun z => nomatch (show false = true from z)), ok.frames, ok.stk, ok.exf, ok.bs, ok.bsz, ok.noex, ok.exfs, ok.funs, ok.frf⟩
theorem Inv.toHot (I : Inv X pins σ H s) (a : Addr) : Inv (hotX X a (X.pn ++ pins)) [] σ H s :=
  ⟨hot_ok I.ok _ _, I.os, I.bare, I.base, I.loc, I.cell, I.free, I.freeC, fun p hp => I.pin p (by rw [List.append_nil] at hp; exact hp), I.hok, I.len⟩
theorem Inv.ofHot {pn2 : List (Addr × Obj)} (I : Inv (hotX X a (X.pn ++ pins)) pn2 σ H s) (ok : X.Ok) : Inv X pins σ H s :=
  ⟨ok, I.os, I.bare, I.base, I.loc, I.cell, I.free, I.freeC, fun p hp => I.pin p (List.mem_append_left _ hp), I.hok, I.len⟩
/-- on the ground, the refusal tracked -/
theorem Inv.caught (I : Inv X pins σ H sI) (nb : ∀ b o, sI.heap.get? b = some o → b ∉ frs X.stack → B.get? b = some o) (st : B.StaysIn s2.heap) (up : sI.heap.UpToSlots s2.heap) (os : s2.os = sI.os) (ag : AllBare s2.gens)
    (na : H a = none) (nB : B.get? a = none) (nf : a ∉ frs X.stack) (he : s2.heap.get? a = some oe) (z : Zc cls d oe) (hd : oe.data = .fields vs) : Inv X pins σ (upd H a (xob a cls d)) s2 := by
  have ne : ∀ {b : Addr} {v : HO}, H b = some v → b ≠ a := fun {b v} q => ne_of_none q na
  have fr : ∀ b ∈ frs X.stack, ∀ o, sI.heap.get? b = some o → ∃ sl, s2.heap.get? b = some { o with slots := sl } := fun b hb o e => by
    obtain ⟨_, o2, e2, hd2⟩ := I.stack.mem hb
    rw [e] at e2; cases e2
    exact up b o e hd2
  have ground : HOk X.prog X.w H s2.heap := (I.inGround nb).kept st
  refine I.call' (ch := []) os ⟨fun b o e _ hb _ => st b o (nb b o e hb), fun b o e _ hb _ => fr b hb o e, fun b o e n _ => ?_, fun b o e _ => ?_, fun b xs q => by rw [upd_ne (ne q)]; exact q, fun b o u q => by rw [upd_ne (ne q)]; exact q, fun b ps q => ⟨#[], by rw [upd_ne (ne q), q]; simp⟩⟩ (fun b o q => ?_) ag fun b hb => absurd hb (by simp)
  · rw [upd_ne]
    · exact n
    · intro q
      rw [q] at e
      have := nb a o e nf
      rw [nB] at this; cases this
  · by_cases hb : b ∈ frs X.stack
    · obtain ⟨sl, q⟩ := fr b hb o e
      exact ⟨_, q⟩
    · exact ⟨o, st b o (nb b o e hb)⟩
  · by_cases hb : b = a
    · subst hb
      rw [upd_same] at q; cases q
      exact xob_ok he z hd
    · rw [upd_ne hb] at q
      exact (ground b o q).stay (fun _ _ _ r => r) (fun c hc => by rw [upd_ne (ne hc)]; exact hc) fun c xs hc => by rw [upd_ne (ne hc)]; exact hc
theorem fly_keeps {base h h2 : Heap} {l : List Env} {e : Addr} {Z : Obj → Prop} (x : HandSPX.FlyingZ base l e Z h) (k : ∀ b o, h.get? b = some o → h2.get? b = some o) : HandSPX.FlyingZ base l e Z h2 := by
  obtain ⟨f1, f2, f3, oe, vs, T, oT, ts, q1, q2, q3, q4, q5, q6, q7, q8, q9⟩ := x
  exact ⟨fun b o q => k b o (f1 b o q), f2, f3.of_keeps fun b o q _ => ⟨o, k b o q, rfl⟩, oe, vs, T, oT, ts, k _ _ q1, q2, q3, q4, q5, q6, k _ _ q7, q8, q9⟩
end
/-- a clause: what its test tells of a class, the name's slot, its suite -/
structure Hnd where
  test : Value → Option Bool
  slot : Option Nat
  ts : TS
def setS (i : Option Nat) (v : Option V) (σ : L2.St) : L2.St := match i with | some i => σ.set i v | none => σ
def endS (i : Option Nat) (D : Ends) : Ends := { nx := fun σ H => D.nx (setS i none σ) H, rt := D.rt, bk := fun σ H => D.bk (setS i none σ) H, ct := fun σ H => D.ct (setS i none σ) H }
def wG (Wout : WX) (D : Ends) : List Hnd → WX
  | [] => Wout
  | h :: r => fun cls d σ H => ∃ b, h.test cls = some b ∧ (b = true → ∀ a, H a = none → h.ts (endS h.slot D) (setS h.slot (some (.ref a)) σ) (upd H a (xob a cls d))) ∧ (b = false → wG Wout D r cls d σ H)
/-- the test of a clause -/
def TestG (X : Cx) (te : Expr) (test : Value → Option Bool) : Prop := ∀ (a : Addr) (pn pins : List (Addr × Obj)) (σ : L2.St) (H : Hp) (s : Shared) (cls : Value) (b : Bool) (oe : Obj) (Q : Bool → Shared → Prop) (E : Value → Shared → Prop),
  Inv (hotX X a pn) pins σ H s → s.heap.get? a = some oe → oe.cls = cls → test cls = some b → (∀ h2, (∀ c o, s.heap.get? c = some o → h2.get? c = some o) → Q b { s with heap := h2 }) →
  wpAny (model X.prog X.w) (X.A.mark (some (.ref a))) (eval te X.env) (fun c s1 => wpAny (model X.prog X.w) (X.A.mark (some (.ref a))) (excMatches (.ref a) c) Q E s1) E s
theorem test_name {X : Cx} {x : Str} {c : Value} {p : Pos} (hc : Names X x c) : TestG X (.Name x p) (fun cls => PySem.W.exmOne X.K cls c) := by
  intro a pn pins σ H s cls b oe Q E I he hcl ht hq
  have LT : PySem.W.Looks (model X.prog X.w) s.heap (typeOf (.ref a)) cls := fun A Q E s k q => wpAny_typeOf_ref (k _ _ he) (by rw [hcl]; exact q)
  have LM := PySem.W.exm_one (M := model X.prog X.w) I.kIn LT ht
  obtain ⟨hg, hd, hm | ⟨hm, hv, hn⟩⟩ := hc
  · exact ld_glob (X := hotX X a pn) I hg hm (LM.here (hq _ fun _ _ z => z)) hd
  · exact ld_blt (X := hotX X a pn) I hg hm hv (LM.here (hq _ fun _ _ z => z)) hn hd
theorem test_tup3 {X : Cx} {x1 x2 x3 : Str} {c1 c2 c3 : Value} {p1 p2 p3 p : Pos} {n : Nat} (h1 : Names X x1 c1) (h2 : Names X x2 c2) (h3 : Names X x3 c3) : TestG X (.Tuple [.Name x1 p1, .Name x2 p2, .Name x3 p3] n p) (fun cls => PySem.W.exmAny X.K cls [c1, c2, c3]) := by
  intro a pn pins σ H s cls b oe Q E I he hcl ht hq
  have LT : PySem.W.Looks (model X.prog X.w) s.heap (typeOf (.ref a)) cls := fun A Q E s k q => wpAny_typeOf_ref (k _ _ he) (by rw [hcl]; exact q)
  have one : ∀ {x : Str} {c : Value} {p : Pos} {Q : Value → Shared → Prop} {E : Value → Shared → Prop}, Names X x c → Q c s → wpAny (model X.prog X.w) (X.A.mark (some (.ref a))) (eval (.Name x p) X.env) Q E s := fun {x c p Q E} hc q => by
    obtain ⟨hg, hd, hm | ⟨hm, hv, hn⟩⟩ := hc
    · exact ld_glob (X := hotX X a pn) I hg hm q hd
    · exact ld_blt (X := hotX X a pn) I hg hm hv q hn hd
  refine wpAny_Tuple ?_
  refine wpAny_items_cons (one h1 ?_)
  refine wpAny_items_cons (one h2 ?_)
  refine wpAny_items_cons (one h3 ?_)
  refine wpAny_items_nil ⟨by size_fits, ?_⟩
  have kp : ∀ q o, s.heap.get? q = some o → (s.heap.push { cls := .type "tuple", data := .seq [c1, c2, c3].toArray }).get? q = some o := fun _ _ z => Heap.get?_push_of_some _ z
  exact (PySem.W.exm_tup3 (I.kIn.keeps kp) (LT.keeps kp) (Heap.get?_push_size s.heap rfl) ht).here (hq _ kp)
/-- the clauses -/
inductive HdG (X : Cx) : List ExceptHandler → List Hnd → Prop
  | nil : HdG X [] []
  | anon {te : Expr} {test : Value → Option Bool} {ts : TS} {b0 : Stmt} {su : List Stmt} {p : Pos} {hds : List ExceptHandler} {l : List Hnd} (h1 : TestG X te test) (h2 : ∀ a pn, PSs (hotX X a pn) (b0 :: su) ts) (r : HdG X hds l) : HdG X (.ExceptHandler (some te) none (b0 :: su) p :: hds) (⟨test, none, ts⟩ :: l)
  | as {te : Expr} {test : Value → Option Bool} {ts : TS} {b0 : Stmt} {su : List Stmt} {p : Pos} {n : Str} {i : Nat} {hds : List ExceptHandler} {l : List Hnd} (h1 : TestG X te test) (h2 : ∀ a pn, PSs (hotX X a pn) (b0 :: su) ts) (hi : X.N[i]? = some n) (hn : X.env.kindOf n = some .local) (r : HdG X hds l) :
    HdG X (.ExceptHandler (some te) (some n) (b0 :: su) p :: hds) (⟨test, some i, ts⟩ :: l)
section
variable {X : Cx} {body : List Stmt} {h0 : ExceptHandler} {hds : List ExceptHandler} {l : List Hnd} {pos : Pos} {tb : WX → TS} {Wout : WX}
theorem ps_tryG (hs : X.stack = X.env :: X.outer) (hf : X.env.frame = some X.env.locals) (hN : X.N.Nodup) (tk : Takes X Wout)
    (hb : ∀ (W : WX) (pn : List (Addr × Obj)) (xe : Value → Shared → Prop), Takes (X.tr pn xe) W → PassesOwn (model X.prog X.w) X.A X.env xe → PSs (X.tr pn xe) body (tb W))
    (hh : HdG X (h0 :: hds) l) : PS X (.Try body (h0 :: hds) [] [] pos) (fun D σ H => tb (wG Wout D l) D σ H) := by
  refine ⟨fun pins s σ H D I want => ?_⟩
  have ok := I.ok
  have frs_eq : X.A.frames = some (X.env :: X.outer) := by rw [ok.frames, hs]
  refine wpAny_Try_except ?_
  refine wpAny_mono ((hb (wG Wout D l) (X.pn ++ pins) (fun e z1 => wpAny (model X.prog X.w) X.A (noteFrame e X.env) (fun _ z2 => wpAny (model X.prog X.w) X.A (setFlight e none) (fun _ z3 =>
    wpAny (model X.prog X.w) X.A (handleBy e X.env (h0 :: hds)) (SP X pins D) X.xe z3) X.xe z2) X.xe z1) (fun u s2 air => ?_) PassesOwn.looking).run [] s σ H D (I.toTry _) want) (fun fl s1 out => ?_) (fun _ _ z => z)
  · obtain ⟨a, B, sI, pins2, σ2, H2, cls, d, rfl, J2, nb, up, sky, na, os, ag, wish⟩ := air
    have J : Inv X pins σ2 H2 sI := J2.ofTry ok
    have sky2 : Sky B (X.env :: X.outer) a (Zc cls d) X.env.locals s2.heap := by rw [← hs]; exact sky
    show wpAny (model X.prog X.w) X.A (noteFrame (.ref a) X.env) _ _ _
    refine Sky.land Zc.steady frs_eq hf sky2 fun h3 fly3 up3 => ?_
    -- one clause behind the other
    have go : ∀ {hds2 : List ExceptHandler} {l2 : List Hnd}, HdG X hds2 l2 → ∀ h3, HandSPX.FlyingZ B (X.env :: X.outer) a (Zc cls d) h3 → s2.heap.UpToSlots h3 → wG Wout D l2 cls d σ2 H2 →
        wpAny (model X.prog X.w) X.A (handleBy (.ref a) X.env hds2) (SP X pins D) X.xe { s2 with heap := h3 } := by
      intro hds2 l2 hk
      -- the suite is entered
      have enter : ∀ {te : Expr} {test : Value → Option Bool} {ts : TS} {b0 : Stmt} {su : List Stmt} {p : Pos} {hds2 : List ExceptHandler} {n : Option Str} {i : Option Nat} (h1 : TestG X te test) (h2 : ∀ a pn, PSs (hotX X a pn) (b0 :: su) ts)
          (hni : (i = none ∧ n = none) ∨ ∃ j m, i = some j ∧ n = some m ∧ X.N[j]? = some m ∧ X.env.kindOf m = some .local) (W2 : Prop)
          (rest : W2 → ∀ h4, HandSPX.FlyingZ B (X.env :: X.outer) a (Zc cls d) h4 → s2.heap.UpToSlots h4 → wpAny (model X.prog X.w) X.A (handleBy (.ref a) X.env hds2) (SP X pins D) X.xe { s2 with heap := h4 }),
          ∀ h3, HandSPX.FlyingZ B (X.env :: X.outer) a (Zc cls d) h3 → s2.heap.UpToSlots h3 → (∃ b, test cls = some b ∧ (b = true → ∀ a, H2 a = none → ts (endS i D) (setS i (some (.ref a)) σ2) (upd H2 a (xob a cls d))) ∧ (b = false → W2)) →
          wpAny (model X.prog X.w) X.A (handleBy (.ref a) X.env (.ExceptHandler (some te) n (b0 :: su) p :: hds2)) (SP X pins D) X.xe { s2 with heap := h3 } := by
        intro te test ts b0 su p hds2 n i h1 h2 hni W2 rest h3 fly3 up3 w
        obtain ⟨b, hb1, hyes, hno⟩ := w
        have J3 : Inv X pins σ2 H2 { s2 with heap := h3 } := J.landed nb fly3.1 (up.trans up3) os ag
        obtain ⟨oe3, vs3, he3, hz3, hd3⟩ := fly3.there
        refine wpAny_handleBy_cons (codeAny_handlers_test ?_) (by intro q; cases q)
        refine h1 a (X.pn ++ pins) [] σ2 H2 _ cls b oe3 _ _ (Inv.toHot J3 a) he3 hz3.1 hb1 fun h4 k4 => ?_
        have fly4 := fly_keeps fly3 k4
        have up4 : s2.heap.UpToSlots h4 := up3.trans (Heap.UpToSlots.of_keeps k4)
        cases b with
        | false => exact rest (hno rfl) h4 fly4 up4
        | true =>
          have nfr : ∀ {h5 : Heap}, HandSPX.FlyingZ B (X.env :: X.outer) a (Zc cls d) h5 → a ∉ frs X.stack := fun {h5} fl hm => by
            obtain ⟨oe5, vs5, he5, hz5, hd5⟩ := fl.there
            rw [hs] at hm
            obtain ⟨_, o6, e6, nf6⟩ := fl.2.2.1.mem hm
            rw [he5] at e6; cases e6
            exact nf6 _ hd5
          have track : ∀ {h5 : Heap} (fl : HandSPX.FlyingZ B (X.env :: X.outer) a (Zc cls d) h5) (u5 : s2.heap.UpToSlots h5), Inv X pins σ2 (upd H2 a (xob a cls d)) { s2 with heap := h5 } := fun {h5} fl u5 => by
            obtain ⟨oe5, vs5, he5, hz5, hd5⟩ := fl.there
            exact Inv.caught (s2 := { s2 with heap := h5 }) J nb fl.1 (up.trans u5) os ag na fl.2.1 (nfr fl) he5 hz5 hd5
          rcases hni with ⟨rfl, rfl⟩ | ⟨j, m, rfl, rfl, hj, hm⟩
          · refine codeAny_handlers_suite ?_
            refine HandSPX.lands_againZ fly4 fun h5 fly5 up5 => ?_
            have S5 := Inv.toHot (track fly5 (up4.trans up5)) a
            refine wpAny_mono ((h2 a (X.pn ++ pins)).run [] _ _ _ _ S5 (hyes rfl a na)) (fun f s6 hsp => ?_) (fun _ _ z => False.elim z)
            match f, hsp with
            | .next, ⟨σ6, H6, S6, q6⟩ => exact ⟨_, _, Inv.ofHot S6 ok, q6⟩
            | .brk, ⟨σ6, H6, S6, q6⟩ => exact ⟨_, _, Inv.ofHot S6 ok, q6⟩
            | .cont, ⟨σ6, H6, S6, q6⟩ => exact ⟨_, _, Inv.ofHot S6 ok, q6⟩
            | .ret u, ⟨v6, σ6, H6, S6, r6, q6⟩ => exact ⟨_, _, _, Inv.ofHot S6 ok, r6, q6⟩
          · refine codeAny_handlers_suite_as ?_
            refine HandSPX.lands_againZ fly4 fun h5 fly5 up5 => ?_
            have S5 := Inv.toHot (track fly5 (up4.trans up5)) a
            refine store_ok (X := hotX X a (X.pn ++ pins)) (v := .ref a) S5 hN hj (.inl hm) rfl (fun s5 S5 => ?_) (.inr hm)
            refine wpAny_mono ((h2 a (X.pn ++ pins)).run [] s5 _ _ _ S5 (hyes rfl a na)) (fun f s6 hsp => ?_) (fun _ _ z => False.elim z)
            match f, hsp with
            | .next, ⟨σ6, H6, S6, q6⟩ => exact gone_ok (Inv.ofHot S6 ok) hN hj hm fun s7 J7 => ⟨_, _, J7, q6⟩
            | .brk, ⟨σ6, H6, S6, q6⟩ => exact gone_ok (Inv.ofHot S6 ok) hN hj hm fun s7 J7 => ⟨_, _, J7, q6⟩
            | .cont, ⟨σ6, H6, S6, q6⟩ => exact gone_ok (Inv.ofHot S6 ok) hN hj hm fun s7 J7 => ⟨_, _, J7, q6⟩
            | .ret u, ⟨v6, σ6, H6, S6, r6, q6⟩ => exact gone_ok (Inv.ofHot S6 ok) hN hj hm fun s7 J7 => ⟨_, _, _, J7, r6, q6⟩
      induction hk with
      | nil =>
        intro h3 fly3 up3 w
        refine wpAny_handleBy_nil ?_
        obtain ⟨_, _, _, oe, vs, T, oT, ts2, e1, _, e2, e3, _⟩ := id fly3
        unfold PySem.passOn
        refine wpAny_bind (wpAny_field e1 e2 e3 ?_)
        rw [if_neg (show ¬ ((Value.ref T == Value.none) = true) from by simp)]
        have last : wpAny (model X.prog X.w) X.A (setFlight (.ref a) X.env.frame) (fun _ s4 => wpAny (model X.prog X.w) X.A (throw (.ref a) : Sem Flow) (SP X pins D) X.xe s4) X.xe { s2 with heap := h3 } := by
          rw [hf]
          refine HandSPX.setFlight_upZ fly3 fun h4 held4 up4 => wpAny_throw (tk _ _ ⟨a, B, sI, pins, σ2, H2, cls, d, rfl, J, nb, (up.trans up3).trans up4, .inr (.inr (by rw [hs]; exact held4)), na, os, ag, w⟩)
        first
          | exact wpAny_bind (wpAny_pure (wpAny_bind last))
          | exact wpAny_bind last
      | anon h1 h2 r ih => exact enter h1 h2 (.inl ⟨rfl, rfl⟩) _ (fun w h4 f4 u4 => ih h4 f4 u4 w)
      | as h1 h2 hi hn r ih => exact enter h1 h2 (.inr ⟨_, _, rfl, rfl, hi, hn⟩) _ (fun w h4 f4 u4 => ih h4 f4 u4 w)
    exact go hh h3 fly3 up3 wish
  · match fl, out with
    | .next, ⟨σ2, H2, J2, q⟩ => exact wpAny_execs_nil ⟨σ2, H2, J2.ofTry ok, q⟩
    | .brk, ⟨σ2, H2, J2, q⟩ => exact ⟨σ2, H2, J2.ofTry ok, q⟩
    | .cont, ⟨σ2, H2, J2, q⟩ => exact ⟨σ2, H2, J2.ofTry ok, q⟩
    | .ret u, ⟨v, σ2, H2, J2, r, q⟩ => exact ⟨v, σ2, H2, J2.ofTry ok, r, q⟩
end
end TW
set_option maxHeartbeats 1000000
namespace TW
open PySem PySem.Spec PyProof.Rows L2
variable {X : Cx} {g : Gx} {a e : Expr} {es : List Expr} {pos : Pos} {fa : En → Sto → R Vv} {fr : En → Sto → R (List Vv)}

/-! ### isinstance of a refusal, its field -/
/-- what the written part says of a class of refusals, so that isinstance and its fields can be asked -/
structure AskC (K : PySem.W.Frag) (C : Addr) : Prop where
  cl : (PySem.W.clsIn K C).isSome = true
  ga : PySem.W.findIn K (.ref C) "__getattribute__" = some (some (.builtin "BaseException.__getattribute__"))
  gg : PySem.W.findIn K (.ref C) "__getattr__" = some none
  sb : PySem.W.subIn K (.ref C) (.type "BaseException") = some true
  hd : PySem.W.hasDictIn K C = true
  ca : PySem.W.findIn K (.ref C) "__class__" = some (some (.builtin "object.__class__"))
  mo : PySem.W.mroIn K C (.type "object") = some true
structure AskB (K : PySem.W.Frag) : Prop where
  hn : PySem.W.specialIn K (.builtin "object.__class__") "__get__" = some (some (.builtin "getset_descriptor.__get__"))
  ht : PySem.W.takesIn K (.builtin "object.__class__") = some true
/-- .. by its name; its fields -/
def XOk (K : PySem.W.Frag) (c : Str) (fs : List Str) : Prop := ∃ C, PySem.W.nsIn K mainGlobals c = some (some (.ref C)) ∧ AskC K C ∧ ∀ f ∈ fs, PySem.W.findIn K (.ref C) f = some none
/-- the class named h, beside the classes of refusals -/
def XrOk (K : PySem.W.Frag) (mg : Str → Option Value) (h : Str) (ms : List (Str × Bool)) : Prop := ∃ (hv : Value) (hw : V), ((h == ("__debug__" : Str)) = false ∧ (mg h = some hv ∨ (mg h = none ∧ bootBuiltins h = some hv ∧ h ≠ "__name__"))) ∧ L2.RelV hw hv ∧ (∀ u, L2.RelV hw u → u = hv) ∧ ∀ c b, ms.lookup c = some b → ∃ C, PySem.W.nsIn K mainGlobals c = some (some (.ref C)) ∧ AskC K C ∧ PySem.W.exmOne K (.ref C) hv = some b ∧ PySem.W.kitOne K (.ref C) hv = some b
theorem inst_of {H : Hp} {s : Shared} {pins : List (Addr × Obj)} {σ : L2.St} {p C : Addr} {d : Option Addr} (I : Inv X pins σ H s) (h : H p = some (xob p (.ref C) d)) (hd : ∀ dd, d = some dd → ∃ fs, H dd = some (.xd fs)) :
    ∃ oe od, PySem.W.InstAt s.heap p oe C od ∧ oe.dict = d ∧ ∀ dd, d = some dd → ∃ o, od = some o ∧ s.heap.get? dd = some o := by
  obtain ⟨oe, vs, e1, e2, e3, e4⟩ := xob_at I.hok h
  have nc : PySem.W.notCls oe = true := by unfold PySem.W.notCls; rw [e4]
  cases d with
  | none => exact ⟨oe, none, ⟨e1, e2, nc, by rw [e3]; trivial⟩, e3, fun dd z => nomatch z⟩
  | some dd =>
    obtain ⟨fs, hf⟩ := hd dd rfl
    have hx : ObjOk X.prog X.w H s.heap dd (.xd fs) := I.hok dd _ hf
    obtain ⟨mA, ⟨o, _, _, ho, _⟩, _⟩ := hx
    exact ⟨oe, some o, ⟨e1, e2, nc, by rw [e3]; exact ho⟩, e3, fun d2 z => by cases z; exact ⟨o, rfl, ho⟩⟩
def rIsX (K : PySem.W.Frag) : List V → Hp → VK → Prop := fun xs H Q => ∃ (p C : Addr) (d : Option Addr) (c : V) (cv : Value) (b : Bool), xs = [.ref p, c] ∧ H p = some (xob p (.ref C) d) ∧ (∀ dd, d = some dd → ∃ fs, H dd = some (.xd fs)) ∧ AskC K C ∧ (∀ u, L2.RelV c u → u = cv) ∧ PySem.W.kitOne K (.ref C) cv = some b ∧ Q (.bl b) H
theorem call_isX (B : AskB X.K) : CallR X (.builtin "isinstance") (rIsX X.K) := by
  intro pins s σ H xs us Q I r h
  obtain ⟨p, C, d, c, cv, b, rfl, hp, hd, A, hcv, e, q⟩ := h
  cases r with
  | cons rx rr =>
    cases rr with
    | cons rt rr =>
      cases rr
      cases rx
      have ec := hcv _ rt
      subst ec
      obtain ⟨oe, od, J, _⟩ := inst_of I hp hd
      exact PySem.W.kia_one (PySem.W.kitx_exc (ox := oe) (od := od) A.cl A.ga A.gg A.sb A.ca B.hn B.ht A.mo) I.kIn J e (fun z => nomatch z) fun tk => ⟨.bl b, H, I.kept (t' := tk) fun _ _ z => z, rfl, q⟩
def tXfld (K : PySem.W.Frag) (f : Str) (te : TE) : TE := fun σ H Q => te σ H fun x H1 => ∃ (p C dd : Addr) (fs : List (Str × V)) (v : V), x = .ref p ∧ H1 p = some (xob p (.ref C) (some dd)) ∧ AskC K C ∧ PySem.W.findIn K (.ref C) f = some none ∧ H1 dd = some (.xd fs) ∧ fs.lookup f = some v ∧ Q v H1
theorem pe_xfld {te : TE} {f : Str} (he : PE X e te) (hb : attributeBase e f X.env (eval e X.env) = eval e X.env) : PE X (.Attribute e f pos) (tXfld X.K f te) := by
  refine ⟨fun pins s σ H Q I h => ?_⟩
  refine attr_of hb (thn (he.run pins s σ H _ I h) fun u s1 hh => ?_)
  obtain ⟨x, H1, I1, rx, p, C, dd, fs, v, ex, hp, A, hno, hdd, hl, q⟩ := hh
  subst ex
  obtain rfl : u = Value.ref p := rx
  obtain ⟨oe, od, J, _, hod⟩ := inst_of I1 hp (fun d2 z => by cases z; exact ⟨fs, hdd⟩)
  obtain ⟨o1, rfl, ho1⟩ := hod dd rfl
  have hx : ObjOk X.prog X.w H1 s1.heap dd (.xd fs) := I1.hok dd _ hdd
  obtain ⟨mA, hns, hr⟩ := hx
  obtain ⟨o2, ho2, hl2⟩ := lookIn_ns hns
  rw [ho1] at ho2; cases ho2
  obtain ⟨u, hu, ru⟩ := RelO.some_of (v := v) (o := mA f) (by rw [← hl]; exact hr f)
  exact HandSPX.exc_get I1.kIn J A.ga A.gg A.sb (PySem.W.findObj_own A.hd hno rfl (by rw [hl2, hu])) (handed_of ru) ⟨v, H1, I1.tok _, ru, q⟩
/-! ### .. in the evaluator -/
theorem repx_dict {K : PySem.W.Frag} {m : Mp} {H : Hp} {z : Xn} {cls : Value} {d : Option Addr} (h : RepX K m H z cls d) : ∀ dd, d = some dd → ∃ fs, H dd = some (.xd fs) := by
  intro dd e
  subst e
  obtain ⟨_, vs, h1, _⟩ := h
  exact ⟨_, (hm_some.mp h1).2⟩
def tNam (hw : V) : TE := fun σ H Q => Q hw H
theorem pe_nam {h : Str} {hv : Value} {hw : V} {p : Pos} (hn : Names X h hv) (r : L2.RelV hw hv) : PE X (.Name h p) (tNam hw) := by
  refine ⟨fun pins s σ H Q I z => ?_⟩
  obtain ⟨hg, hd, hm | ⟨hm, hv', hn'⟩⟩ := hn
  · exact ld_glob I hg hm ⟨hw, H, I, r, z⟩ hd
  · exact ld_blt I hg hm hv' ⟨hw, H, I, r, z⟩ hn' hd
theorem le_xis (B : AskB X.K) (hK : g.K = X.K) (hg : Gl X "isinstance") (hm : X.mg "isinstance" = none) {p q : Pos} {h : Str} {ms : List (Str × Bool)} (ha : PE X a (LE g fa)) (hgl : Gl X h) (xr : XrOk X.K X.mg h ms)
    (h1 : starEach [a, .Name h q] X.env = (false, eval a X.env) :: starEach [.Name h q] X.env) (h2 : (backTo pos (starEach [.Name h q] X.env)).any (·.1) = false) (h3 : starEach [.Name h q] X.env = (false, eval (.Name h q) X.env) :: starEach [] X.env) :
    PE X (.Call (.Name "isinstance" p) [a, .Name h q] [] pos) (LE g fun en st => (fa en st).bind (kXis ms)) := by
  obtain ⟨hv, hw, n1, n2, n3, n4⟩ := xr
  have n1 : Names X h hv := ⟨hgl, n1⟩
  refine pe_weak (pe_callB (call_isX B) hg hm (by decide +kernel) (pa_cons ha (pa_cons (pe_nam n1 n2) pa_nil) h1) (by decide) (by decide) h1 h2) ?_
  rintro σ H Q ⟨m, en, st, rel, re, out⟩
  refine ⟨m, en, st, rel, re, Out.bind out fun x st1 m1 H1 v e1 x1 l1 rx o1 => ?_⟩
  unfold kXis at o1
  split at o1
  · rename_i z
    split at o1
    · rename_i b hb
      obtain ⟨c1, c2, c3, c4, c5⟩ := n4 _ _ hb
      obtain ⟨pa, cls, d, rfl, k1, k2⟩ := rx
      have kc := k2.1
      rw [hK, c2] at kc
      cases kc
      exact ⟨pa, c1, d, hw, hv, b, rfl, (hm_some.mp k1).2, repx_dict k2, c3, n3, c5, o1 m1 H1 _ .refl l1 (by simp only [RepV, RepD])⟩
    · exact o1.elim
  · exact o1.elim
theorem le_xfld (hK : g.K = X.K) {f : Str} {ms : List Str} (ha : PE X a (LE g fa)) (hb : attributeBase a f X.env (eval a X.env) = eval a X.env) (xo : ∀ c ∈ ms, ∃ fs, XOk X.K c fs ∧ f ∈ fs) : PE X (.Attribute a f pos) (LE g fun en st => (fa en st).bind (kXfld f ms)) := by
  refine pe_weak (pe_xfld ha hb) ?_
  rintro σ H Q ⟨m, en, st, rel, re, out⟩
  refine ⟨m, en, st, rel, re, Out.bind out fun x st1 m1 H1 v e1 x1 l1 rx o1 => ?_⟩
  unfold kXfld at o1
  split at o1
  · rename_i z
    split at o1
    · rename_i hc
      obtain ⟨fs, ⟨C, c1, c2, c3⟩, c4⟩ := xo _ (by simpa using hc)
      obtain ⟨pa, cls, d, rfl, k1, k2⟩ := rx
      have kc := k2.1
      rw [hK, c1] at kc
      cases kc
      unfold give at o1
      split at o1
      · rename_i y hy
        have k3 := k2.2
        cases d with
        | none =>
          have k3 : z.fs = [] := k3
          rw [k3] at hy; cases hy
        | some dd =>
          obtain ⟨vs, k4, k5⟩ := k3
          obtain ⟨w, w1, w2⟩ : ∃ w, ((z.fs.map (·.1)).zip vs).lookup f = some w ∧ RepD g.K (hm m1 H1) y w := by
            clear o1 k4 k2
            generalize z.fs = l at hy k5
            induction l generalizing vs with
            | nil => cases hy
            | cons q l ih =>
              obtain ⟨q1, q2⟩ := q
              simp only [List.map_cons] at k5 ⊢
              obtain ⟨v0, r0, rfl, p0, p1⟩ := k5.uncons
              simp only [List.lookup_cons] at hy
              simp only [List.zip_cons_cons, List.lookup_cons]
              split at hy
              · cases hy
                rename_i hq
                exact ⟨v0, rfl, p0⟩
              · exact ih _ hy p1
          exact ⟨pa, C, dd, _, w, rfl, (hm_some.mp k1).2, c2, c3 f c4, (hm_some.mp k4).2, w1, o1 m1 H1 _ .refl l1 w2⟩
      · exact o1.elim
    · exact o1.elim
  · exact o1.elim
end TW
set_option maxHeartbeats 1000000
namespace TW
open PySem PySem.Spec PyProof.Rows L2
variable {X : Cx} {g : Gx} {a e : Expr} {es : List Expr} {pos : Pos} {fa : En → Sto → R Vv} {fr : En → Sto → R (List Vv)}

/-! ### raise -/
/-- what is known of a class of refusals that is raised -/
def XcOk (Pr : Program) (w : World) (K : PySem.W.Frag) (mg : Str → Option Value) (c : Str) (fs : List Str) : Prop := (c == ("__debug__" : Str)) = false ∧
  ∃ (C : Addr) (B nw ini : String) (tl : List Value) (fI : Addr) (fd : FuncData) (ps : List Str) (mk : List V → List (Str × V)), mg c = some (.ref C) ∧ PySem.W.nsIn K mainGlobals c = some (some (.ref C)) ∧ BaseF B nw ini tl ∧ OwnC K C nw tl ∧
    PySem.W.findIn K (.ref C) "__init__" = some (some (.ref fI)) ∧ PySem.W.typeIn K (.ref fI) = some (.type "function") ∧ L2.Binds K fd ps [] ∧ (∀ ws, ws.length = fs.length → mkX fs ws = some (mk ws)) ∧ ∀ bs : Heap, FnOk Pr w K mg bs CX0 1 fI fd ps (spI C fs.length mk)
theorem mkX_len {α : Type} {fs : List Str} {xs : List α} {l : List (Str × α)} (h : mkX fs xs = some l) : fs.length = xs.length ∧ fs.length ≤ 2 := by
  unfold mkX at h
  split at h <;> first | exact ⟨rfl, by simp⟩ | cases h
theorem mkX_rep {K : PySem.W.Frag} {H : Hp} {fs : List Str} {ds : List D} {l : List (Str × D)} (h : mkX fs ds = some l) {ws : List V} (r : RepDs K H ds ws) {k : List (Str × V)} (h2 : mkX fs ws = some k) : ∃ us, k = (l.map (·.1)).zip us ∧ RepDs K H (l.map (·.2)) us := by
  unfold mkX at h
  split at h <;> cases h
  · obtain ⟨v, r1, rfl, p1, p2⟩ := r.uncons
    simp only [RepDs] at p2
    subst p2
    simp only [mkX, Option.some.injEq] at h2
    subst h2
    exact ⟨[v], rfl, .cons p1 .nil⟩
  · obtain ⟨v, r1, rfl, p1, p2⟩ := r.uncons
    obtain ⟨v2, r2, rfl, p3, p4⟩ := p2.uncons
    simp only [RepDs] at p4
    subst p4
    simp only [mkX, Option.some.injEq] at h2
    subst h2
    exact ⟨[v2, v], rfl, .cons p3 (.cons p1 .nil)⟩
theorem raise_heap {H1 : Hp} {p dx C : Addr} {u v : HO} (n : H1 p = none) (ne : dx ≠ p) {fl : List (Str × V)} : upd (del (upd (upd (upd H1 p u) dx v) p (exo p C (some dx))) p) dx (.xd fl) = upd H1 dx (.xd fl) := by
  funext c
  unfold upd del
  by_cases h1 : c = dx
  · simp [h1]
  · by_cases h2 : c = p
    · subst h2
      simp [h1, n]
    · simp [h1, h2]
theorem ls_raise (hK : g.K = X.K) (hc : X.calm = true) (tk : Takes X g.W) (hr : Room 2 X.A) {c : Str} {fs : List Str} (xc : XcOk X.prog X.w X.K X.mg c fs) (hg : Gl X c) {p pos2 : Pos} (ha : PA X (e :: es) (LA g fr))
    (he : starEach (e :: es) X.env = (false, eval e X.env) :: starEach es X.env) (hpl : (backTo pos (starEach es X.env)).any (·.1) = false) :
    PS X (.Raise (some (.Call (.Name c p) (e :: es) [] pos)) none pos2) (LS g fun en st => (fr en st).go en (kRais c fs en)) := by
  obtain ⟨db, C, B, nw, ini, tl, fI, fd, ps, mk, h1, h2, h3, h4, h5, h6, h7, h8, h9⟩ := xc
  refine ps_weak (ps_raise hc tk (pmk_x h3 h4 h5 h6 (h9 X.base) hr h7 hg h1 db ha he hpl)) ?_
  rintro E σ H ⟨m, en, st, rel, re, out⟩
  refine ⟨m, en, st, rel, re, OutS.go out re fun vs st1 m1 H1 ws e1 x1 l1 rx o1 => ?_⟩
  unfold kRais at o1
  split at o1
  · rename_i ds hp
    split at o1
    · rename_i l hl
      have rd := pures_rep hp rx
      obtain ⟨n1, n2⟩ := mkX_len hl
      have n3 : ws.length = fs.length := by rw [n1, rd.length]
      refine ⟨by omega, fun q nq => ?_⟩
      rw [List.append_nil]
      refine ⟨q, ws, rfl, n3, upd_same, fun dx hdx ne => ⟨rfl, dx, mk ws, upd_same, by rw [upd_ne ne, upd_same], by rw [upd_ne ne] at hdx; exact hdx, ?_⟩⟩
      have hdx' : H1 dx = none := by rw [upd_ne ne] at hdx; exact hdx
      rw [raise_heap nq ne]
      obtain ⟨us, k1, k2⟩ := mkX_rep hl rd (h8 ws n3)
      refine o1 m1 _ σ (.ref C) (some dx) (l1.ext_fresh hdx') (l1.fresh hdx') ((re.ext x1).ext (l1.ext_fresh hdx')) ⟨by rw [hK]; exact h2, us, ?_, RepDs.mono (hm_upd hdx') _ _ k2⟩
      rw [← k1]
      exact hm_some.mpr ⟨l1.fresh_ne hdx', upd_same⟩
    · exact o1.elim
  · exact o1.elim
/-! ### try -/
theorem RepE.unset {K : PySem.W.Frag} {m : Mp} {H : Hp} {en : En} {σ : L2.St} (h : RepE K m H en σ) (i : Nat) : RepE K m H (en.set i none) (σ.set i none) := by
  refine ⟨by simpa using h.1, fun j x q => ?_⟩
  by_cases hj : i = j
  · subst hj
    by_cases hl : i < en.length
    · rw [List.getElem?_set_self hl] at q; cases q
    · rw [List.getElem?_eq_none (by simpa using hl)] at q; cases q
  · rw [List.getElem?_set_ne hj] at q ⊢
    exact h.2 j x q
theorem un_rep {K : PySem.W.Frag} {m : Mp} {H : Hp} {en : En} {σ : L2.St} (i : Option Nat) (h : RepE K m H en σ) : RepE K m H (match i with | some i => en.set i none | none => en) (setS i none σ) := by
  cases i with
  | none => exact h
  | some i => exact h.unset i
/-- the clauses of the tree and those of the text -/
inductive HsR (K : PySem.W.Frag) (F : Fs) (g : Gx) : Hs → List Hnd → Prop
  | nil : HsR K F g .nil []
  | cons {ms : List (List (Str × Bool))} {i : Option Nat} {b : Ss} {r : Hs} {test : Value → Option Bool} {l : List Hnd} (h : ∀ c k, anyX ms c = some k → ∃ cls, PySem.W.nsIn K mainGlobals c = some (some cls) ∧ test cls = some k) (t : HsR K F g r l) :
    HsR K F g (.cons ms i b r) (⟨test, i, LS ⟨g.K, g.mg, fun _ _ _ _ => False⟩ (evSs F b)⟩ :: l)
theorem suite_out {F : Fs} {m : Mp} {H : Hp} {st : Sto} {D : Ends} {i : Option Nat} {x : Xn} {cls : Value} {d : Option Addr} {en : En} {σ : L2.St} {q : Addr} {b : Ss} (rel : Rel g.K m st H) (re : RepE g.K m H en σ) (rx : RepX g.K m H x cls d) (nq : H q = none)
    (o : OutS g m H D ((evSs F b (putO i (.exn x) en) st).out i)) : LS ⟨g.K, g.mg, fun _ _ _ _ => False⟩ (evSs F b) (endS i D) (setS i (some (.ref q)) σ) (upd H q (xob q cls d)) := by
  have ex : Ext m H m (upd H q (xob q cls d)) := rel.ext_fresh nq
  have hq : hm m (upd H q (xob q cls d)) q = some (xob q cls d) := hm_some.mpr ⟨rel.fresh_ne nq, upd_same⟩
  refine ⟨m, putO i (.exn x) en, st, rel.fresh nq, ?_, ?_⟩
  · cases i with
    | none => exact re.ext ex
    | some i =>
      have rv : RepV g.K m (upd H q (xob q cls d)) (.exn x) (.ref q) := ⟨q, cls, d, rfl, hq, rx.ext ex⟩
      exact (re.ext ex).set rv i
  · cases hr : evSs F b (putO i (.exn x) en) st with
    | nx en2 st2 => rw [hr] at o; exact fun m2 H2 σ2 x2 l2 r2 => o m2 H2 _ (ex.trans x2) l2 (un_rep i r2)
    | bk en2 st2 => rw [hr] at o; exact fun m2 H2 σ2 x2 l2 r2 => o m2 H2 _ (ex.trans x2) l2 (un_rep i r2)
    | ct en2 st2 => rw [hr] at o; exact fun m2 H2 σ2 x2 l2 r2 => o m2 H2 _ (ex.trans x2) l2 (un_rep i r2)
    | rt v st2 => rw [hr] at o; exact fun m2 H2 w x2 l2 r2 => o m2 H2 w (ex.trans x2) l2 r2
    | exc _ _ _ => rw [hr] at o; exact o.elim
    | stuck => rw [hr] at o; exact o.elim
theorem hnd_out {F : Fs} {hs : Hs} {l : List Hnd} (hr : HsR g.K F g hs l) {D : Ends} : ∀ {m : Mp} {H : Hp} {st : Sto} {x : Xn} {cls : Value} {d : Option Addr} {en : En} {σ : L2.St}, Rel g.K m st H → RepE g.K m H en σ → RepX g.K m H x cls d → OutS g m H D (evH F hs x en st) → wG g.W D l cls d σ H := by
  induction hr with
  | nil =>
    intro m H st x cls d en σ rel re rx o
    unfold evH at o
    exact o m H σ cls d .refl rel re rx
  | cons h t ih =>
    intro m H st x cls d en σ rel re rx o
    unfold evH at o
    split at o
    · rename_i hk
      obtain ⟨c2, k1, k2⟩ := h _ _ hk
      have := rx.1
      rw [k1] at this
      cases this
      exact ⟨true, k2, fun _ q nq => suite_out rel re rx nq o, fun z => nomatch z⟩
    · rename_i hk
      obtain ⟨c2, k1, k2⟩ := h _ _ hk
      have := rx.1
      rw [k1] at this
      cases this
      exact ⟨false, k2, (fun z => nomatch z), fun _ => ih rel re rx o⟩
    · exact o.elim
theorem ls_try {body : List Stmt} {h0 : ExceptHandler} {hds : List ExceptHandler} {l : List Hnd} {F : Fs} {hs : Hs} {fb : En → Sto → RS} (h1 : X.stack = X.env :: X.outer) (h2 : X.env.frame = some X.env.locals) (hN : X.N.Nodup) (hK : g.K = X.K) (tk : Takes X g.W)
    (hb : ∀ (W : WX) (pn : List (Addr × Obj)) (xe : Value → Shared → Prop), Takes (X.tr pn xe) W → PassesOwn (model X.prog X.w) X.A X.env xe → PSs (X.tr pn xe) body (LS ⟨g.K, g.mg, W⟩ fb))
    (hh : HdG X (h0 :: hds) l) (hr : HsR g.K F g hs l) : PS X (.Try body (h0 :: hds) [] [] pos) (LS g fun en st => (fb en st).caught fun x en st => evH F hs x en st) := by
  refine ps_weak (ps_tryG (tb := fun W => LS ⟨g.K, g.mg, W⟩ fb) h1 h2 hN tk hb hh) ?_
  rintro D σ H ⟨m, en, st, rel, re, out⟩
  refine ⟨m, en, st, rel, re, ?_⟩
  dsimp only at out
  cases hf : fb en st with
  | nx en2 st2 => rw [hf] at out; exact out
  | rt v st2 => rw [hf] at out; exact out
  | bk en2 st2 => rw [hf] at out; exact out
  | ct en2 st2 => rw [hf] at out; exact out
  | stuck => rw [hf] at out; exact out
  | exc x en2 st2 =>
    rw [hf] at out
    exact fun m2 H2 σ2 cls d x2 l2 r2 rx => hnd_out hr l2 r2 rx (OutS.ext x2 out)
end TW
namespace TW
open PySem PySem.Spec PyProof.Rows L2
variable {X : Cx} {g : Gx} {a b c e tg : Expr} {es : List Expr} {pos : Pos} {fa fb fc : En → Sto → R Vv} {fr fk : En → Sto → R (List Vv)}

/-! ### calls of one's own defs -/
inductive ArrV (K : PySem.W.Frag) (all : List Value) : List (Nat ⊕ D) → List Value → Prop
  | nil : ArrV K all [] []
  | pos {i r z zs} : all[i]? = some z → ArrV K all r zs → ArrV K all (.inl i :: r) (z :: zs)
  | dft {d v r z zs} : RelV v z → (∀ H, RepD K H d v) → ArrV K all r zs → ArrV K all (.inr d :: r) (z :: zs)
theorem repvs_get {K : PySem.W.Frag} {m : Mp} {H : Hp} {y : Vv} : ∀ {xs : List Vv} {vs : List V} {i : Nat}, RepVs K m H xs vs → xs[i]? = some y → ∃ v, vs[i]? = some v ∧ RepV K m H y v := by
  intro xs vs i h
  induction h generalizing i with
  | nil => intro z; simp at z
  | cons p q ih =>
    cases i with
    | zero => intro z; simp at z; subst z; exact ⟨_, rfl, p⟩
    | succ j => intro z; simpa using ih (by simpa using z)
theorem arr_rep {K : PySem.W.Frag} {m : Mp} {H : Hp} {xs : List Vv} {vs : List V} {all : List Value} (rx : RepVs K m H xs vs) (rv : Vals vs all) : ∀ {ord : List (Nat ⊕ D)} {zs : List Value} {ys : List Vv}, ArrV K all ord zs → arrD ord xs = some ys → ∃ ws, RepVs K m H ys ws ∧ Vals ws zs := by
  intro ord zs ys h
  induction h generalizing ys with
  | nil => intro e; simp only [arrD, Option.some.injEq] at e; subst e; exact ⟨[], .nil, .nil⟩
  | @pos i r z zs h1 _ ih =>
    intro e
    simp only [arrD] at e
    split at e
    · rename_i x ys' hx hy
      cases e
      obtain ⟨ws, k1, k2⟩ := ih hy
      obtain ⟨v, k3, k4⟩ := repvs_get rx hx
      obtain ⟨u, k5, k6⟩ := rv.get k3
      rw [h1] at k5
      cases k5
      exact ⟨v :: ws, .cons k4 k1, .cons k6 k2⟩
    · cases e
  | @dft d v r z zs h1 h2 _ ih =>
    intro e
    simp only [arrD] at e
    split at e <;> cases e
    rename_i ys' hy
    obtain ⟨ws, k1, k2⟩ := ih hy
    exact ⟨v :: ws, .cons (h2 _) k1, .cons h1 k2⟩
structure Pat where
  name : Str
  npos : Nat
  ks : List Str
  fn : Nat
  ord : List (Nat ⊕ D)
  hot : Bool := false
/-- what a call of this pattern leans on -/
def PatOk (X : Cx) (hot : Bool) (k : Nat) (F : Fs) (p : Pat) : Prop := ∃ (f : Addr) (fd : FuncData) (ps : List Str), X.mg p.name = some (.ref f) ∧ PySem.W.keepIn X.K (.ref f) = true ∧
  FnG X.prog X.w X.K X.mg X.base (L2.CX X.prog X.w) hot k f fd ps (spD X.K X.mg ps.length (F p.fn)) ∧ p.ord.length = ps.length ∧
  ∀ (s : Shared) (us ws : List Value), X.K.In s.heap → us.length = p.npos → ws.length = p.ks.length → ∃ zs, BindsTo s fd ⟨us, p.ks.zip ws⟩ (ps.zip zs) ∧ ArrV X.K (us ++ ws) p.ord zs
theorem arr_len {ord : List (Nat ⊕ D)} : ∀ {xs ys : List Vv}, arrD ord xs = some ys → ys.length = ord.length := by
  induction ord with
  | nil => intro xs ys e; simp only [arrD, Option.some.injEq] at e; subst e; rfl
  | cons o r ih =>
    intro xs ys e
    cases o with
    | inl i =>
      simp only [arrD] at e
      split at e <;> cases e
      rename_i h1 h2
      simp [ih h2]
    | inr d =>
      simp only [arrD] at e
      split at e <;> cases e
      rename_i h2
      simp [ih h2]
theorem run_own {hot : Bool} {k : Nat} {F : Fs} {p : Pat} (hp : PatOk X hot k F p) (hr : L2H.RoomH (k + 2) X.A) (hd : hot = false → X.A.handled = none) (gd : X.A.guards = some []) (hK : g.K = X.K) (hmg : g.mg = X.mg) (tk : Takes X g.W) {pins : List (Addr × Obj)} {σ : L2.St} {H : Hp} {s : Shared} {Q : VK} {us ws : List Value} {vs zs : List V} {m : Mp} {st : Sto} {xs ys : List Vv}
    (hl : us.length = p.npos) (hk : ws.length = p.ks.length) (I : Inv X pins σ H s) (rv : Vals vs us) (rz : Vals zs ws) (rel : Rel g.K m st H) (rx : RepVs g.K m H xs vs) (ry : RepVs g.K m H ys zs)
    (out : Out g m H σ (RepV g.K) Q (match arrD p.ord (xs ++ ys) with | some as => F p.fn as st | none => .stuck)) :
    ∀ f, X.mg p.name = some (.ref f) → wpAny (model X.prog X.w) X.A (call (.ref f) us (p.ks.zip ws)) (EP X pins σ Q) X.xe s := by
  intro f0 hf0
  obtain ⟨f, fd, ps, hf, hkp, FO, hol, hb⟩ := hp
  rw [hf] at hf0
  cases hf0
  obtain ⟨bs, hB, hA⟩ := hb s us ws I.kIn hl hk
  split at out
  · rename_i as ha
    have rall : RepVs g.K m H (xs ++ ys) (vs ++ zs) := by
      have : ∀ {xs : List Vv} {vs : List V}, RepVs g.K m H xs vs → RepVs g.K m H (xs ++ ys) (vs ++ zs) := by
        intro xs vs h
        induction h with
        | nil => exact ry
        | cons p q ih => exact .cons p ih
      exact this rx
    rw [← hK] at hA
    obtain ⟨cs, k1, k2⟩ := arr_rep rall (rv.append rz) hA ha
    have hlen : as.length = ps.length := by rw [arr_len ha]; exact hol
    have spx := sp_call (g := g) (σ := σ) (n := ps.length) (f := F p.fn) rel k1 hlen out
    rw [hK, hmg] at spx
    refine wpAny_call (codeAny_mono (FO.go X.A X.stack s H ⟨us, p.ks.zip ws⟩ bs cs Q _ hr hd gd I.env0 hB k2 spx) fun r s' hq => ?_)
    cases r with
    | error e => exact passAt tk σ pins H s e s' I hq
    | ok fl =>
      cases fl with
      | ret u => exact I.after hq
      | next => exact False.elim hq
      | brk => exact False.elim hq
      | cont => exact False.elim hq
  · exact out.elim
/-! keywords -/
def kwNames (kws : List Keyword) : List Str := kws.filterMap (·.arg)
theorem kw_all : ∀ {kws : List Keyword} (h : kws.all (·.arg.isSome) = true) (env : Env) (p : Pos), (backToKw p (keywordEach kws env)).all (·.1.isSome) = true
  | [], _, _, _ => rfl
  | ⟨n, v, q⟩ :: kws, h, env, p => by
    simp only [List.all_cons, Bool.and_eq_true] at h
    have := kw_all h.2 env p
    simp only [keywordEach, backToKw, List.map_cons, List.all_cons, Bool.and_eq_true] at this ⊢
    exact ⟨h.1, this⟩
theorem kw_any {kws : List Keyword} (h : kws.all (·.arg.isSome) = true) (env : Env) (p : Pos) : (backToKw p (keywordEach kws env)).any (·.1.isNone) = false := by
  have := kw_all h env p
  rw [List.all_eq_true] at this
  rw [List.any_eq_false]
  intro x hx
  have := this x hx
  cases hq : x.1 with
  | none => rw [hq] at this; cases this
  | some _ => simp
theorem kw_names : ∀ (kws : List Keyword) (env : Env) (p : Pos), (backToKw p (keywordEach kws env)).filterMap (·.1) = kwNames kws
  | [], _, _ => rfl
  | ⟨n, v, q⟩ :: kws, env, p => by
    have := kw_names kws env p
    simp only [keywordEach, backToKw, List.map_cons, List.filterMap_cons, kwNames] at this ⊢
    cases n with
    | none => exact this
    | some b => exact congrArg (b :: ·) this
def LK := LA
theorem pk_weak {kws : List Keyword} {t t' : TA} (h : PK X kws t) (k : ∀ σ H Q, t' σ H Q → t σ H Q) : PK X kws t' := ⟨fun pos pins s σ H Q I q => h.run pos pins s σ H Q I (k σ H Q q)⟩
theorem lk_nil : PK X [] (LA g fun _ st => .ok [] st) := by
  refine pk_weak pk_nil ?_
  rintro σ H Q ⟨m, en, st, rel, re, out⟩
  exact out m H [] .refl rel .nil
theorem lk_cons {nm : Option Str} {kp : Pos} {kws : List Keyword} (ha : PE X a (LE g fa)) (hr : PK X kws (LA g fr)) : PK X (⟨nm, a, kp⟩ :: kws) (LA g fun en st => (fa en st).bind fun x st => (fr en st).bind fun xs st => .ok (x :: xs) st) := by
  refine pk_weak (pk_cons ha hr) ?_
  rintro σ H Q ⟨m, en, st, rel, re, out⟩
  refine ⟨m, en, st, rel, re, Out.bind out fun x st1 m1 H1 v e1 x1 l1 rx o1 => ?_⟩
  refine ⟨m1, en, st1, l1, re.ext x1, Out.bind o1 fun y st2 m2 H2 w e2 x2 l2 ry o2 => ?_⟩
  exact o2 m2 H2 (v :: w) .refl l2 (.cons (rx.ext x2) ry)
theorem repvs_ext {K : PySem.W.Frag} {m m' : Mp} {H H' : Hp} (e : Ext m H m' H') {xs : List Vv} {vs : List V} (h : RepVs K m H xs vs) : RepVs K m' H' xs vs := by
  induction h with
  | nil => exact .nil
  | cons p q ih => exact .cons (p.ext e) ih
/-- evaluations give as many values as there are expressions -/
def Len (n : Nat) (f : En → Sto → R (List Vv)) : Prop := ∀ en st xs st', f en st = .ok xs st' → xs.length = n
theorem le_own {hot : Bool} {k : Nat} {F : Fs} {p : Pat} {q : Pos} {kws : List Keyword} (hp : PatOk X hot k F p) (hr : L2H.RoomH (k + 2) X.A) (hd : hot = false → X.A.handled = none) (gd : X.A.guards = some []) (hK : g.K = X.K) (hmg : g.mg = X.mg) (tk : Takes X g.W) (hg : Gl X p.name) (hdb : (p.name == ("__debug__" : Str)) = false)
    (ha : PA X es (LA g fr)) (hk : PK X kws (LA g fk)) (hs : es.all noStar = true) (hkw : kws.all (·.arg.isSome) = true) (hn : kwNames kws = p.ks) (l1 : Len p.npos fr) (l2 : Len p.ks.length fk) (he : es.length = p.npos) (hz : es = [] → ∀ en st, fr en st = .ok [] st) :
    PE X (.Call (.Name p.name q) es kws pos) (LE g fun en st => (fr en st).bind fun vs st => (fk en st).bind fun ws st => match arrD p.ord (vs ++ ws) with | some xs => F p.fn xs st | none => .stuck) := by
  refine ⟨fun pins s σ H Q I h => ?_⟩
  have hp' := hp
  obtain ⟨f, fd, ps, hf, hkp, _⟩ := hp'
  obtain ⟨m, en, st, rel, re, out⟩ := h
  refine wpAny_Call_Name_kw (ld_glob I hg hf ?_ hdb)
  have hnames := kw_names kws X.env pos
  have hall := kw_all hkw X.env pos
  -- the keywords, then the call
  have key : ∀ (us : List Value) (s1 : Shared) (vs : List V) (xs : List Vv) (H1 : Hp) (m1 : Mp) (st1 : Sto), us.length = p.npos → Inv X pins σ H1 s1 → Vals vs us → Ext m H m1 H1 → Rel g.K m1 st1 H1 → RepVs g.K m1 H1 xs vs →
      Out g m1 H1 σ (RepV g.K) Q ((fk en st1).bind fun ws st => match arrD p.ord (xs ++ ws) with | some xs => F p.fn xs st | none => .stuck) →
      wpAny (model X.prog X.w) X.A (evalAll ((backToKw pos (keywordEach kws X.env)).map (·.2))) (fun ks s₂ => X.K.In s₂.heap ∧ wpAny (model X.prog X.w) X.A (call (.ref f) us (((backToKw pos (keywordEach kws X.env)).filterMap (·.1)).zip ks)) (EP X pins σ Q) X.xe s₂) X.xe s1 := by
    intro us s1 vs xs H1 m1 st1 hul I1 rv x1 r1 rx o1
    have R : LA g fk σ H1 (fun zs H2 => ∃ (m2 : Mp) (st2 : Sto) (ys : List Vv), zs.length = p.ks.length ∧ Rel g.K m2 st2 H2 ∧ RepVs g.K m2 H2 xs vs ∧ RepVs g.K m2 H2 ys zs ∧ Out g m2 H2 σ (RepV g.K) Q (match arrD p.ord (xs ++ ys) with | some as => F p.fn as st2 | none => .stuck)) := by
      refine ⟨m1, en, st1, r1, re.ext x1, Out.bind o1 fun ys st2 m2 H2 zs e2 x2 r2 ry o2 => ?_⟩
      exact ⟨m2, st2, ys, by rw [← Paired.length ry]; exact l2 _ _ _ _ e2, r2, repvs_ext x2 rx, ry, o2⟩
    refine thn (hk.run pos pins s1 σ H1 _ I1 R) fun ws s2 ⟨zs, H2, I2, rz, m2, st2, ys, hz, r2, rx2, ry2, o2⟩ => ⟨I2.kIn, ?_⟩
    rw [hnames, hn]
    exact run_own hp hr hd gd hK hmg tk hul (by rw [← rz.length]; exact hz) I2 rv rz r2 rx2 ry2 o2 f hf
  cases es with
  | nil =>
    refine PySem.W.callWith_KW0 (h₀ := X.base) I.ok.mod.kin hkp hall ?_ (by rw [kw_any hkw]; rfl)
    simp only [List.nil_append]
    dsimp only at out
    rw [hz rfl, bind_ok] at out
    exact key [] s [] [] H m st he I .nil .refl rel .nil out
  | cons e es =>
    have hs' := hs
    simp only [List.all_cons, Bool.and_eq_true] at hs'
    refine PySem.W.callWith_KW (h₀ := X.base) I.ok.mod.kin hkp hall ?_ (by rw [star_any hs, kw_any hkw]; rfl) (star_cons hs'.1 X.env)
    have R : LA g fr σ H (fun vs H1 => ∃ (m1 : Mp) (st1 : Sto) (xs : List Vv), vs.length = p.npos ∧ Ext m H m1 H1 ∧ Rel g.K m1 st1 H1 ∧ RepVs g.K m1 H1 xs vs ∧ Out g m1 H1 σ (RepV g.K) Q ((fk en st1).bind fun ws st => match arrD p.ord (xs ++ ws) with | some xs => F p.fn xs st | none => .stuck)) := by
      refine ⟨m, en, st, rel, re, Out.bind out fun xs st1 m1 H1 vs e1 x1 r1 rx o1 => ?_⟩
      exact ⟨m1, st1, xs, by rw [← Paired.length rx]; exact l1 _ _ _ _ e1, x1, r1, rx, o1⟩
    refine thn (ha.run pos pins s σ H _ I R) fun us s1 ⟨vs, H1, I1, rv, m1, st1, xs, hv, x1, r1, rx, o1⟩ => ?_
    exact key us s1 vs xs H1 m1 st1 (by rw [← rv.length]; exact hv) I1 rv x1 r1 rx o1
end TW
namespace TW
open PySem PySem.Spec PyProof.Rows L2

/-! ### the text's names resolved -/
structure Cfg where
  N : List Str
  sc : Scope
  top : Bool
  ownc : List Str
  gl : List (Str × D)
  bl : List Str
  pats : List Pat
  nw : List Str
  rn : Bool
  tb : List (Str × List (Str × D))
  dn : List (Str × Bool) := []
  hot : Bool := false
  xcs : List (Str × List Str) := []
  xr : List (Str × List (Str × Bool)) := []
def isGl (c : Cfg) (x : Str) : Bool := match c.sc.names.lookup x with | some .globalImplicit => true | _ => false
def isVis (c : Cfg) (x : Str) : Bool := match c.sc.names.lookup x with | some .local => true | some .cell => true | some .free => true | _ => false
def stOk (c : Cfg) (x : Str) : Bool := match c.sc.names.lookup x with | some .local => true | some .cell => c.top || c.ownc.contains x | _ => false
def plainName (x : Str) : Bool := !(x == ("__debug__" : Str)) && !(x == ("__classdict__" : Str))
def tyTab : List (Str × String) := [("int", "int"), ("str", "str"), ("bool", "bool"), ("tuple", "tuple"), ("list", "list"), ("dict", "dict")]
def cName (c : Cfg) (x : Str) : Option E :=
  if plainName x then
    if isVis c x then (match c.N.idxOf? x with | some i => some (.var i) | none => none)
    else if isGl c x then (match c.gl.lookup x with
      | some d => some (.con d)
      | none => none)
    else none
  else none
def cConst : Const → Option D
  | .int i => some (.int i)
  | .bool b => some (.bl b)
  | .none => some .non
  | .str s => if s.length ≤ 10000 ∧ s.cps.all (· < 0x110000) then some (.str s) else none
  | _ => none
def bfTab : List (Str × Bf) := [("len", .len), ("abs", .abs), ("max", .max2), ("min", .min2), ("divmod", .divmod), ("all", .all), ("any", .any), ("tuple", .tupleOf), ("list", .listOf), ("int", .intOf), ("repr", .reprOf), ("sorted", .sortedOf), ("str", .strOf)]
def mfTab : List (Str × Mf) := [("join", .join), ("upper", .upper), ("append", .append), ("get", .get), ("pop", .pop), ("count", .count), ("index", .index), ("split", .split), ("remove", .remove)]
def cList (f : Expr → Option E) : List Expr → Option Es
  | [] => some .nil
  | e :: es => match f e, cList f es with | some a, some r => some (.cons a r) | _, _ => none
def cKws (f : Expr → Option E) : List Keyword → Option Es
  | [] => some .nil
  | ⟨some _, e, _⟩ :: es => match f e, cKws f es with | some a, some r => some (.cons a r) | _, _ => none
  | _ => none
def cOpt (f : Expr → Option E) : Option Expr → Option Eo
  | none => some .none
  | some e => match f e with | some a => some (.some a) | none => none
def cBool (f : Expr → Option E) (op : BoolOp) : List Expr → Option E
  | [] => none
  | [a] => f a
  | a :: b :: r => match f a, cBool f op (b :: r) with
    | some x, some y => some (match op with | .And => .and x y | .Or => .or x y)
    | _, _ => none
def findPat (c : Cfg) (x : Str) (n : Nat) (ks : List Str) : Option Pat := c.pats.find? fun p => decide (p.name = x) && decide (p.npos = n) && decide (p.ks = ks)
/-- a test -/
def tOk : Nat → Expr → Bool
  | 0, _ => false
  | n + 1, .BoolOp _ vs _ => vs.all (tOk n)
  | n + 1, .UnaryOp .Not v _ => tOk n v
  | _ + 1, .IfExp .. => false
  | _ + 1, .Compare _ ops _ _ => ops.length == 1 || ops.length == 2
  | _ + 1, _ => true
def cCall (c : Cfg) (f : Expr → Option E) (x : Str) (as : List Expr) (ks : List Keyword) : Option E :=
  if isGl c x && plainName x && as.all noStar then
    match findPat c x as.length (kwNames ks) with
    | some p => match cList f as, cKws f ks with | some a, some k => some (.call p.fn a k p.ord) | _, _ => none
    | none => if ks.isEmpty && !as.isEmpty && c.bl.contains x then (match bfTab.lookup x with
      | some b => (match cList f as with | some a => some (.blt b a) | none => none)
      | none => none) else none
  else none
def cMeth (f : Expr → Option E) (o : Expr) (m : Str) (ap pos : Pos) (as : List Expr) : Option E :=
  if plainBase o && ap.endLine == pos.line && as.all noStar && decide (as.length < 20) then
    match mfTab.lookup m, f o, cList f as with | some mf, some a, some r => some (.meth mf a r) | _, _, _ => none
  else none
def owOk (ow : Option (List Nat)) (i : Nat) : Bool := match ow with | none => true | some l => l.contains i
def slotsOf (c : Cfg) (ow : Option (List Nat)) : List Str → Option (List Nat)
  | [] => some []
  | x :: xs => if stOk c x then (match c.N.idxOf? x, slotsOf c ow xs with
      | some i, some r => if owOk ow i then some (i :: r) else none
      | _, _ => none) else none
/-- targets; ow: the slots that may be set -/
def cTg (c : Cfg) (f : Expr → Option E) (ow : Option (List Nat)) : Nat → Expr → Option Tg
  | 0, _ => none
  | n + 1, e => match e with
    | .Name x _ => if stOk c x then (match c.N.idxOf? x with
        | some i => if owOk ow i then some (.name i) else none
        | none => none) else none
    | .Tuple es _ _ => if es.all noStar then (match cTgs (cTg c f ow n) es with | some ts => some (.tup ts) | none => none) else
        (match starNames es with
        | some (xs, y) => (match slotsOf c ow xs, slotsOf c ow [y] with | some is, some [j] => some (.star is j (c.nw.contains y)) | _, _ => none)
        | none => none)
    | .Subscript o i _ => if plainSub i then (match f o, f i with | some a, some b => some (.sub a b) | _, _ => none) else none
    | _ => none
where cTgs (t : Expr → Option Tg) : List Expr → Option Tgs
  | [] => some .nil
  | e :: es => match t e, cTgs t es with | some a, some r => some (.cons a r) | _, _ => none
def noSet : Expr → Bool
  | .Set _ _ _ => false
  | _ => true
def isTupT : Expr → Bool
  | .Tuple _ _ _ => true
  | _ => false
/-- the keywords of a zip -/
def zipKw : List Keyword → Option Bool
  | [] => some false
  | [⟨some x, .Constant (.bool true) _ _, _⟩] => if decide (x = "strict") then some true else none
  | _ => none
/-- a dict that is changed, by its name -/
def dnI (c : Cfg) (e : Expr) : Option Nat := match e with
  | .Name x _ => if (c.dn.lookup x).isSome && plainName x && isVis c x then c.N.idxOf? x else none
  | _ => none
def cIt (c : Cfg) (f : Expr → Option E) (tg e : Expr) : Option Ir :=
  if noSet e then
    match e with
    | .Call (.Name x _) [a] [] _ =>
      if decide (x = "range") && isGl c x && c.bl.contains x && noStar a then (match f a with | some i => some (.range1 i) | none => none)
      else if decide (x = "enumerate") && isGl c x && c.bl.contains x && noStar a && isTupT tg then (match f a with | some i => some (.enum i) | none => none)
      else (match f e with | some i => some (.val i) | none => none)
    | .Call (.Name x _) [a, b] ks _ =>
      if decide (x = "zip") then
        (if isGl c x && c.bl.contains x && [a, b].all noStar && isTupT tg then
          (match zipKw ks, cList f [a, b] with | some q, some r => some (.zip q r) | _, _ => none) else none)
      else (match f e with | some i => some (.val i) | none => none)
    | e => match dnI c e with
      | some i => some (.keys i)
      | none => match f e with | some i => some (.val i) | none => none
  else none
def ownOf (N : List Str) (scope : Scope) : List (Str × Nat) := scope.names.filterMap fun y => match y.2 with
  | .local => (N.idxOf? y.1).map fun i => (y.1, i)
  | .cell => (N.idxOf? y.1).map fun i => (y.1, i)
  | _ => none
def isAdd : Operator → Bool
  | .Add => true
  | _ => false
def isMul : Operator → Bool
  | .Mult => true
  | _ => false
def isLstX : E → Bool
  | .lst _ => true
  | _ => false
/-- what gives a new list -/
def freshI : E → Bool
  | .lst _ => true
  | .lc _ _ _ _ _ => true
  | .bin op _ _ => isAdd op
  | .slc _ _ _ => true
  | .blt f _ => match f with | .listOf => true | .sortedOf => true | _ => false
  | .srtc _ _ _ _ _ => true
  | .dkeys _ _ => true
  | .lock _ _ => true
  | .lrep _ _ => true
  | .setl _ _ => true
  | _ => false
def cfgB (c : Cfg) (scope : Scope) : Cfg := { c with sc := relS scope c.sc, top := false, ownc := (scope.names.filter fun y => match y.2 with | .cell => true | _ => false).map (·.1) }
def ifsOk (n : Nat) : List Expr → Bool
  | [] => true
  | [t] => tOk n t
  | _ => false
/-- a table of the module by its name -/
def tabOf (c : Cfg) (e : Expr) : Option (Str × List (Str × D)) := match e with
  | .Name x _ => if isGl c x && plainName x then (match c.tb.lookup x with | some t => some (x, t) | none => none) else none
  | _ => none
def isIn : CmpOp → Option Bool
  | .In => some false
  | .NotIn => some true
  | _ => none
/-- isinstance(a, T) -/
def isiOf (c : Cfg) (x : Str) (as : List Expr) (ks : List Keyword) : Option (Expr × Str × String) := match as, ks with
  | [a, .Name t _], [] => if decide (x = "isinstance") && isGl c x && c.bl.contains x && noStar a && isGl c t && plainName t && c.bl.contains t then
      (match tyTab.lookup t with | some s => some (a, t, s) | none => none) else none
  | _, _ => none
/-- isinstance(e, C), C a class that refusals are asked for -/
def xisOf (c : Cfg) (x : Str) (as : List Expr) (ks : List Keyword) : Option (Expr × Str × List (Str × Bool)) := match as, ks with
  | [a, .Name t _], [] => if decide (x = "isinstance") && isGl c x && c.bl.contains x && noStar a && isGl c t then
      (match c.xr.lookup t with | some ms => some (a, t, ms) | none => none) else none
  | _, _ => none
/-- the classes with such a field -/
def fldOf (c : Cfg) (f : Str) : List Str := (c.xcs.filter fun p => p.2.contains f).map (·.1)
/-- list(d), sorted(d) -/
def dkOf (c : Cfg) (x : Str) (as : List Expr) (ks : List Keyword) : Option (Bool × Expr) := match as, ks with
  | [a], [] => if isGl c x && c.bl.contains x && noStar a && (dnI c a).isSome then (if decide (x = "sorted") then some (true, a) else if decide (x = "list") then some (false, a) else none) else none
  | _, _ => none
/-- sorted(set(a)), len(set(a)) -/
def slOf (c : Cfg) (x : Str) (as : List Expr) (ks : List Keyword) : Option (Bool × Expr) := match as, ks with
  | [.Call (.Name y _) [a] [] _], [] => if isGl c x && c.bl.contains x && noStar a && decide (y = "set") && isGl c "set" && c.bl.contains "set" then (if decide (x = "sorted") then some (true, a) else if decide (x = "len") then some (false, a) else none) else none
  | _, _ => none
def cPairs (f : Expr → Option E) : List (Option Expr) → List Expr → Option Es
  | [], [] => some .nil
  | some k :: ks, v :: vs => match f k, f v, cPairs f ks vs with | some a, some b, some r => some (.cons a (.cons b r)) | _, _, _ => none
  | _, _ => none
/-- what walks a dict locks it -/
def lockOf (c : Cfg) (iter : Expr) (x : E) : E := match dnI c iter with | some i => .lock i x | none => x
def cE1 (f : Cfg → Expr → Option E) (n : Nat) (c : Cfg) (e : Expr) : Option E := match e with
    | .Name x _ => cName c x
    | .Constant k _ _ => match cConst k with | some d => some (.con d) | none => none
    | .BinOp a op b _ => match f c a, f c b with | some x, some y => some (if (isMul op && isLstX x) = true then .lrep x y else .bin op x y) | _, _ => none
    | .UnaryOp op a _ => match op, f c a with
      | .Not, some x => some (.not x)
      | .USub, some x => some (.neg x)
      | _, _ => none
    | .BoolOp op vs _ => cBool (f c) op vs
    | .Compare a [op] [b] _ => if behindInMarks op b then none else match tabOf c b, isIn op with
      | some (_, t), some neg => (match f c a with | some x => some (.tin neg t x) | none => none)
      | _, _ => match dnI c b, isIn op with
        | some _, some neg => (match f c a, f c b with | some x, some y => some (.din neg x y) | _, _ => none)
        | _, _ => (match f c a, f c b with | some x, some y => some (.cmp op x y) | _, _ => none)
    | .Compare a [p, q] [b, d] _ => if lastMarks [p, q] [b, d] then none else (match f c a, f c b, f c d with | some x, some y, some z => some (.chain p q x y z) | _, _, _ => none)
    | .IfExp t a b _ => if tOk n t then (match f c t, f c a, f c b with | some x, some y, some z => some (.ite x y z) | _, _, _ => none) else none
    | .Call (.Name x _) [.SetComp elt [⟨tg, iter, ifs, 0⟩] scope _] [] _ =>
      if decide (x = "sorted") && isGl c x && c.bl.contains x && blkC c.N c.sc scope (ownOf c.N scope) && ifsOk n ifs then
        (match cIt c (f c) tg iter, cTg (cfgB c scope) (f (cfgB c scope)) (some ((ownOf c.N scope).map (·.2))) 4 tg, cList (f (cfgB c scope)) ifs, f (cfgB c scope) elt with
          | some i, some t, some r, some x => some (.srtc x t i r ((ownOf c.N scope).map (·.2)))
          | _, _, _, _ => none)
      else none
    | .Call (.Name x _) as ks _ => match isiOf c x as ks with
      | some (a, _, s) => (match f c a with | some y => some (.isi y s) | none => none)
      | none => match xisOf c x as ks with
      | some (a, _, ms) => (match f c a with | some y => some (.xis y ms) | none => none)
      | none => match dkOf c x as ks with
        | some (srt, a) => (match f c a with | some y => some (.dkeys srt y) | none => none)
        | none => match slOf c x as ks with
          | some (srt, a) => (match f c a with | some y => some (.setl srt y) | none => none)
          | none => cCall c (f c) x as ks
    | .Call (.Attribute o m ap) as [] pos => cMeth (f c) o m ap pos as
    | .Attribute o fn _ => if plainBase o then (match f c o with | some a => some (.xfld a fn (fldOf c fn)) | none => none) else none
    | .Tuple es _ _ => if es.all noStar then (match cList (f c) es with | some r => some (.tup r) | none => none) else none
    | .List es _ => if es.all noStar then (match cList (f c) es with | some r => some (.lst r) | none => none) else none
    | .Dict [] [] _ => some .dct0
    | .Dict ks vs _ => if decide (ks.length ≤ 15) && !ks.isEmpty then (match cPairs (f c) ks vs with | some r => some (.dcd r) | none => none) else none
    | .Subscript a (.Slice none none (some (.UnaryOp .USub (.Constant (.int 1) _ _) _)) _) _ => match f c a with | some x => some (.rev x) | none => none
    | .Subscript a (.Slice lo hi none _) _ => match f c a, cOpt (f c) lo, cOpt (f c) hi with | some x, some l, some h => some (.slc x l h) | _, _, _ => none
    | .Subscript a b _ => if plainIx b then (match tabOf c a with
        | some (_, t) => (match f c b with | some y => some (.tget t y) | none => none)
        | none => match dnI c a with
          | some _ => (match f c a, f c b with | some x, some y => some (.dget x y) | _, _ => none)
          | none => (match f c a, f c b with | some x, some y => some (.idx x y) | _, _ => none)) else none
    | .ListComp elt [⟨tg, iter, ifs, 0⟩] scope _ =>
      if blkC c.N c.sc scope (ownOf c.N scope) && ifsOk n ifs then
        (match cIt c (f c) tg iter, cTg (cfgB c scope) (f (cfgB c scope)) (some ((ownOf c.N scope).map (·.2))) 4 tg, cList (f (cfgB c scope)) ifs, f (cfgB c scope) elt with
          | some i, some t, some r, some x => some (lockOf c iter (.lc x t i r ((ownOf c.N scope).map (·.2))))
          | _, _, _, _ => none)
      else none
    | _ => none
def orNope : Option E → E
  | some x => x
  | none => .nope
/-- what may stand where a refusal is handled -/
def hotE : Expr → Bool
  | .ListComp _ _ _ _ => false
  | .Call (.Name x _) _ _ _ => !((["max", "min", "all", "any", "tuple", "sorted", "list", "len"] : List Str).contains x)
  | _ => true
/-- what isn't known here is .nope: nothing is said of it -/
def cE : Nat → Cfg → Expr → Option E
  | 0, _, _ => some .nope
  | n + 1, c, e => some (orNope (if (c.hot && !hotE e) = true then none else cE1 (cE n) n c e))
end TW
namespace TW
open PySem PySem.Spec PyProof.Rows L2

structure Good (X : Cx) (c : Cfg) (g : Gx) (k : Nat) (F : Fs) : Prop where
  hN : X.N = c.N
  nd : c.N.Nodup
  sc : X.env.scope = c.sc
  calm : c.hot = false → X.calm = true
  K : g.K = X.K
  mg : g.mg = X.mg
  tk : Takes X g.W
  room : L2H.RoomH (k + 2) X.A
  hd : c.hot = false → X.A.handled = none
  gd : X.A.guards = some []
  gl : ∀ x d, c.gl.lookup x = some d → ∃ u v, X.mg x = some u ∧ RelV v u ∧ ∀ H, RepD X.K H d v
  bl : ∀ x ∈ c.bl, X.mg x = none
  pats : ∀ p ∈ c.pats, PatOk X c.hot k F p
  top : c.top = true → ∀ x, X.fn x = true
  ownc : ∀ x ∈ c.ownc, X.fn x = true
  tb : ∀ x t, c.tb.lookup x = some t → TabOk X.K X.w X.mg x t
  ask : c.xr ≠ [] → AskB X.K
  xcs : ∀ p ∈ c.xcs, XOk X.K p.1 p.2 ∧ XcOk X.prog X.w X.K X.mg p.1 p.2
  xr : ∀ h ms, c.xr.lookup h = some ms → XrOk X.K X.mg h ms
variable {X : Cx} {c : Cfg} {g : Gx} {k : Nat} {F : Fs}
theorem Good.hu (G : Good X c g k F) : X.A.units + 64 < cLine := by have := G.room.un; omega
theorem isGl_of (G : Good X c g k F) {x : Str} (h : isGl c x = true) : Gl X x := by
  unfold isGl at h
  show X.env.scope.names.lookup x = some .globalImplicit
  rw [G.sc]
  split at h
  · assumption
  · cases h
theorem isVis_of (G : Good X c g k F) {x : Str} (h : isVis c x = true) : Vis X.env.scope x := by
  unfold isVis at h
  unfold Vis
  rw [G.sc]
  split at h
  · exact .inl (by assumption)
  · exact .inr (.inl (by assumption))
  · exact .inr (.inr (by assumption))
  · cases h
theorem stOk_of (G : Good X c g k F) {x : Str} (h : stOk c x = true) : L2.Loc X.env.scope x ∧ (X.fn x = true ∨ X.env.scope.names.lookup x = some .local) := by
  unfold stOk at h
  unfold L2.Loc
  rw [G.sc]
  split at h
  · exact ⟨.inl (by assumption), .inr (by assumption)⟩
  · refine ⟨.inr (by assumption), .inl ?_⟩
    rw [Bool.or_eq_true] at h
    rcases h with h | h
    · exact G.top h x
    · exact G.ownc x (by simpa using h)
  · cases h
theorem idx_of (G : Good X c g k F) {x : Str} {i : Nat} (h : c.N.idxOf? x = some i) : X.N[i]? = some x := by
  rw [G.hN]
  rw [List.idxOf?, List.findIdx?_eq_some_iff_getElem] at h
  obtain ⟨hl, h1, _⟩ := h
  rw [List.getElem?_eq_getElem hl]
  have : c.N[i] = x := by simpa using h1
  rw [this]
theorem plain_of {x : Str} (h : plainName x = true) : (x == ("__debug__" : Str)) = false ∧ (x == ("__classdict__" : Str)) = false := by
  unfold plainName at h
  simp only [Bool.and_eq_true, Bool.not_eq_true'] at h
  exact h
theorem tyTab_boot : tyTab.all (fun y => decide (bootBuiltins y.1 = some (.type y.2)) && decide (y.1 ≠ "__name__") && tyOk y.2) = true := by decide +kernel
theorem mem_of_lookup {β : Type} {x : Str} {b : β} : ∀ {l : List (Str × β)}, l.lookup x = some b → (x, b) ∈ l
  | [], h => by cases h
  | (y, b') :: r, h => by
    simp only [List.lookup_cons] at h
    split at h
    · rename_i hy
      cases h
      have : x = y := by simpa using hy
      subst this
      exact List.mem_cons_self
    · exact List.mem_cons_of_mem _ (mem_of_lookup h)
theorem snd_name (G : Good X c g k F) {x : Str} {pos : Pos} {ir : E} (h : cName c x = some ir) : PE X (.Name x pos) (LE g (evE F ir)) := by
  unfold cName at h
  split at h
  · rename_i hp
    obtain ⟨p1, p2⟩ := plain_of hp
    split at h
    · rename_i hv
      split at h <;> cases h
      rename_i i hi
      exact le_var (idx_of G hi) (isVis_of G hv) p1 p2
    · split at h
      · rename_i hg
        split at h
        · rename_i d hd
          cases h
          obtain ⟨u, v, h1, h2, h3⟩ := G.gl x d hd
          exact le_con (pe_glob (isGl_of G hg) h1 h2 p1) (by rw [G.K]; exact h3)
        · cases h
      · cases h
  · cases h
theorem snd_const {k' : Const} {n : Nat} {pos : Pos} {d : D} (h : cConst k' = some d) : PE X (.Constant k' n pos) (LE g (evE F (.con d))) := by
  unfold cConst at h
  split at h
  · cases h; exact le_con pe_int (by intro H; simp only [RepD])
  · cases h; exact le_con pe_bl (by intro H; simp only [RepD])
  · cases h; exact le_con pe_non (by intro H; simp only [RepD])
  · split at h <;> cases h
    rename_i hs
    exact le_con pe_str (by intro H; simp only [RepD]; exact ⟨trivial, by rw [sizeLine_eq]; omega, hs.2⟩)
  · cases h
/-- the induction's promise for the parts -/
def SE (n : Nat) : Prop := ∀ (X : Cx) (c : Cfg) (g : Gx) (k : Nat) (F : Fs), Good X c g k F → ∀ (e : Expr) (ir : E), cE n c e = some ir → PE X e (LE g (evE F ir)) ∧ (freshI ir = true → PE X e (LF g (evE F ir))) ∧ (∀ j, tOk j e = true → PT X e (LT g (tt (evE F ir))))
theorem snd_list {n : Nat} (S : SE n) (G : Good X c g k F) : ∀ {es : List Expr} {r : Es}, cList (cE n c) es = some r → es.all noStar = true → PA X es (LA g (evEs F r)) ∧ Len es.length (evEs F r)
  | [], r, h, _ => by
    simp only [cList, Option.some.injEq] at h
    subst h
    refine ⟨la_nil, fun en st xs st' e => ?_⟩
    simp only [evEs] at e
    cases e
    rfl
  | e :: es, r, h, hs => by
    simp only [cList] at h
    split at h <;> cases h
    rename_i a r h1 h2
    simp only [List.all_cons, Bool.and_eq_true] at hs
    obtain ⟨ih, il⟩ := snd_list S G h2 hs.2
    refine ⟨la_cons (S X c g k F G e a h1).1 ih (star_cons hs.1 X.env), fun en st xs st' e' => ?_⟩
    simp only [evEs] at e'
    cases q1 : evE F a en st with
    | ok x st1 =>
      rw [q1, bind_ok] at e'
      cases q2 : evEs F r en st1 with
      | ok ys st2 =>
        rw [q2, bind_ok] at e'
        cases e'
        simp [il _ _ _ _ q2]
      | exc _ _ => rw [q2] at e'; cases e'
      | stuck => rw [q2] at e'; cases e'
    | exc _ _ => rw [q1] at e'; cases e'
    | stuck => rw [q1] at e'; cases e'
theorem snd_kws {n : Nat} (S : SE n) (G : Good X c g k F) : ∀ {ks : List Keyword} {r : Es}, cKws (cE n c) ks = some r → PK X ks (LA g (evEs F r)) ∧ Len ks.length (evEs F r) ∧ ks.all (·.arg.isSome) = true ∧ (kwNames ks).length = ks.length
  | [], r, h => by
    simp only [cKws, Option.some.injEq] at h
    subst h
    refine ⟨lk_nil, fun en st xs st' e => ?_, rfl, rfl⟩
    simp only [evEs] at e
    cases e
    rfl
  | ⟨none, e, p⟩ :: es, r, h => by simp only [cKws] at h; cases h
  | ⟨some nm, e, p⟩ :: es, r, h => by
    simp only [cKws] at h
    split at h <;> cases h
    rename_i a r h1 h2
    obtain ⟨ih, il, ia, in'⟩ := snd_kws S G h2
    refine ⟨lk_cons (S X c g k F G e a h1).1 ih, fun en st xs st' e' => ?_, by simpa using ia, by simp only [kwNames, List.filterMap_cons, List.length_cons] at in' ⊢; rw [in']⟩
    simp only [evEs] at e'
    cases q1 : evE F a en st with
    | ok x st1 =>
      rw [q1, bind_ok] at e'
      cases q2 : evEs F r en st1 with
      | ok ys st2 =>
        rw [q2, bind_ok] at e'
        cases e'
        simp [il _ _ _ _ q2]
      | exc _ _ => rw [q2] at e'; cases e'
      | stuck => rw [q2] at e'; cases e'
    | exc _ _ => rw [q1] at e'; cases e'
    | stuck => rw [q1] at e'; cases e'
theorem snd_bool {n : Nat} (S : SE n) (G : Good X c g k F) {op : BoolOp} {pos : Pos} : ∀ {vs : List Expr} {ir : E}, cBool (cE n c) op vs = some ir → PE X (.BoolOp op vs pos) (LE g (evE F ir)) ∧ (freshI ir = true → PE X (.BoolOp op vs pos) (LF g (evE F ir))) ∧ (∀ j, vs.all (tOk j) = true → PW X (.BoolOp op vs pos) (LT g (tt (evE F ir))))
  | [], _, h => by cases h
  | [a], ir, h => by
    simp only [cBool] at h
    have s := S X c g k F G a ir h
    refine ⟨le_one s.1, fun hf => pe_one (s.2.1 hf), fun j hj => lw_one (s.2.2 j (by simpa using hj))⟩
  | a :: b :: r, ir, h => by
    simp only [cBool] at h
    split at h <;> cases h
    rename_i x y h1 h2
    have s := S X c g k F G a x h1
    obtain ⟨i1, _, i2⟩ := snd_bool S G h2
    cases op with
    | And =>
      refine ⟨le_and G.K s.1 i1, fun hf => (nomatch hf), fun j hj => ?_⟩
      have hj' : tOk j a = true ∧ (b :: r).all (tOk j) = true := by simpa using hj
      exact lw_and (s.2.2 j hj'.1) (i2 j hj'.2)
    | Or =>
      refine ⟨le_or G.K s.1 i1, fun hf => (nomatch hf), fun j hj => ?_⟩
      have hj' : tOk j a = true ∧ (b :: r).all (tOk j) = true := by simpa using hj
      exact lw_or (s.2.2 j hj'.1) (i2 j hj'.2)
theorem bfTab_name : bfTab.all (fun y => decide (y.1 = bfName y.2)) = true := by decide +kernel
theorem mfTab_name : mfTab.all (fun y => decide (y.1 = mfName y.2)) = true := by decide +kernel
theorem snd_tab (G : Good X c g k F) {e : Expr} {x : Str} {t : List (Str × D)} (h : tabOf c e = some (x, t)) : ∃ p, e = .Name x p ∧ Gl X x ∧ (x == ("__debug__" : Str)) = false ∧ TabOk X.K X.w X.mg x t := by
  unfold tabOf at h
  split at h
  · rename_i y p
    split at h
    · rename_i hc
      rw [Bool.and_eq_true] at hc
      split at h <;> cases h
      rename_i ht
      exact ⟨p, rfl, isGl_of G hc.1, (plain_of hc.2).1, G.tb _ _ ht⟩
    · cases h
  · cases h
theorem snd_pairs {n : Nat} (S : SE n) (G : Good X c g k F) {pos : Pos} : ∀ {ks : List (Option Expr)} {vs : List Expr} {r : Es}, cPairs (cE n c) ks vs = some r → ∃ fs, PPs X pos ks vs (fs.map fun f => (LE g f.1, LE g f.2)) ∧ ks.all (·.isSome) = true ∧ ks.length = vs.length ∧ ∀ en st, prs fs en st = evEs F r en st
  | [], [], r, h => by
    simp only [cPairs, Option.some.injEq] at h
    subst h
    exact ⟨[], pps_nil, rfl, rfl, fun en st => by simp only [prs, evEs]⟩
  | [], _ :: _, r, h => by simp [cPairs] at h
  | none :: _, _, r, h => by simp [cPairs] at h
  | some _ :: _, [], r, h => by simp [cPairs] at h
  | some a :: ks, b :: vs, r, h => by
    unfold cPairs at h
    split at h <;> cases h
    rename_i x y z h1 h2 h3
    obtain ⟨fs, q1, q2, q3, q4⟩ := snd_pairs S G h3
    refine ⟨(evE F x, evE F y) :: fs, pps_cons (S X c g k F G _ x h1).1 (S X c g k F G _ y h2).1 q1, by simpa using q2, by simp [q3], fun en st => ?_⟩
    simp only [prs, evEs, q4]
    cases evE F x en st with
    | exc _ _ => rfl
    | stuck => rfl
    | ok v s1 =>
      simp only [bind_ok]
      cases evE F y en s1 with
      | exc _ _ => rfl
      | stuck => rfl
      | ok w s2 =>
        simp only [bind_ok]
        cases evEs F z en s2 with
        | exc _ _ => rfl
        | stuck => rfl
        | ok ws s3 => rfl
theorem snd_isi {n : Nat} (S : SE n) (G : Good X c g k F) {x t : Str} {as : List Expr} {ks : List Keyword} {p pos : Pos} {a : Expr} {s : String} {y : E} (h : isiOf c x as ks = some (a, t, s)) (hy : cE n c a = some y) : PE X (.Call (.Name x p) as ks pos) (LE g (evE F (.isi y s))) := by
  unfold isiOf at h
  split at h
  · split at h
    · rename_i hc
      split at h <;> cases h
      rename_i ht
      simp only [Bool.and_eq_true, decide_eq_true_eq] at hc
      obtain ⟨⟨⟨⟨⟨⟨rfl, h1⟩, h2⟩, h3⟩, h4⟩, h5⟩, h6⟩ := hc
      have hm := List.all_eq_true.mp tyTab_boot _ (mem_of_lookup ht)
      simp only [Bool.and_eq_true, decide_eq_true_eq] at hm
      exact le_isi G.K (isGl_of G h1) (G.bl _ (by simpa using h2)) (S X c g k F G _ y hy).1 (star_cons h3 _) (star_any (es := [.Name _ _]) rfl _ _) (star_cons rfl _) (pe_bltn (isGl_of G h4) (G.bl _ (by simpa using h6)) hm.1.1 rfl hm.1.2 (plain_of h5).1) hm.2
    · cases h
  · cases h
theorem hot_of {x : Str} {as : List Expr} {ks : List Keyword} {p pos : Pos} (hx : (["max", "min", "all", "any", "tuple", "sorted", "list", "len"] : List Str).contains x = true) (hh : c.hot = true → hotE (.Call (.Name x p) as ks pos) = true) : c.hot = false := by
  cases hc : c.hot with
  | false => rfl
  | true =>
    have this : (!(((["max", "min", "all", "any", "tuple", "sorted", "list", "len"] : List Str).contains x))) = true := hh hc
    rw [hx] at this
    cases this
theorem snd_xis {n : Nat} (S : SE n) (G : Good X c g k F) {x t : Str} {as : List Expr} {ks : List Keyword} {p pos : Pos} {a : Expr} {ms : List (Str × Bool)} {y : E} (h : xisOf c x as ks = some (a, t, ms)) (hy : cE n c a = some y) : PE X (.Call (.Name x p) as ks pos) (LE g (evE F (.xis y ms))) := by
  unfold xisOf at h
  split at h
  · split at h
    · rename_i hc
      split at h <;> cases h
      rename_i ht
      simp only [Bool.and_eq_true, decide_eq_true_eq] at hc
      obtain ⟨⟨⟨⟨rfl, h1⟩, h2⟩, h3⟩, h4⟩ := hc
      have hr := G.xr _ _ ht
      refine pe_weak (le_xis (G.ask (fun z => by rw [z] at ht; cases ht)) G.K (isGl_of G h1) (G.bl _ (by simpa using h2)) (S X c g k F G _ y hy).1 (isGl_of G h4) hr (star_cons h3 _) (star_any (es := [.Name _ _]) rfl _ _) (star_cons rfl _)) ?_
      intro σ H Q hq
      simpa only [evE] using hq
    · cases h
  · cases h
theorem snd_call {n : Nat} (S : SE n) (G : Good X c g k F) {x : Str} {as : List Expr} {ks : List Keyword} {p pos : Pos} {ir : E} (hh : c.hot = true → hotE (.Call (.Name x p) as ks pos) = true) (h : cCall c (cE n c) x as ks = some ir) : PE X (.Call (.Name x p) as ks pos) (LE g (evE F ir)) ∧ (freshI ir = true → PE X (.Call (.Name x p) as ks pos) (LF g (evE F ir))) := by
  unfold cCall at h
  split at h
  · rename_i hc
    simp only [Bool.and_eq_true] at hc
    obtain ⟨⟨hg, hp⟩, hs⟩ := hc
    split at h
    · rename_i pt hpt
      split at h <;> cases h
      rename_i a kk h1 h2
      have hf := List.find?_some hpt
      have hm := List.mem_of_find?_eq_some hpt
      simp only [Bool.and_eq_true, decide_eq_true_eq] at hf
      obtain ⟨⟨f1, f2⟩, f3⟩ := hf
      subst f1
      obtain ⟨pa, pl⟩ := snd_list S G h1 hs
      obtain ⟨pk, kl, ka, kn⟩ := snd_kws S G h2
      refine ⟨le_own (G.pats pt hm) G.room G.hd G.gd G.K G.mg G.tk (isGl_of G hg) (plain_of hp).1 pa pk hs ka f3.symm (by rw [f2]; exact pl) (by rw [f3, kn]; exact kl) f2.symm fun hz en st => ?_, fun hf => (nomatch hf)⟩
      subst hz
      simp only [cList, Option.some.injEq] at h1
      subst h1
      simp only [evEs]
    · split at h
      · rename_i hq
        simp only [Bool.and_eq_true, List.isEmpty_iff] at hq
        obtain ⟨⟨hk, ha⟩, hbl⟩ := hq
        subst hk
        split at h
        · rename_i b hb
          split at h <;> cases h
          rename_i a h1
          have hm := List.all_eq_true.mp bfTab_name _ (mem_of_lookup hb)
          have hm : x = bfName b := by simpa using hm
          subst hm
          cases as with
          | nil => cases ha
          | cons e es =>
            refine ⟨le_blt G.K G.gd (by have := G.room.un; omega) b (fun hb2 => G.calm (hot_of (x := bfName b) (by cases b <;> first | (cases hb2; done) | decide) hh)) (isGl_of G hg) (G.bl _ (by simpa using hbl)) (snd_list S G h1 hs).1 hs, fun hf => ?_⟩
            cases b <;> first | (cases hf; done) | exact lf_list G.K (isGl_of G hg) (G.bl _ (by have z := hbl; simp at z; exact z)) (snd_list S G h1 hs).1 hs | exact lf_sorted G.K (by have := G.room.un; omega) (isGl_of G hg) (G.bl _ (by have z := hbl; simp at z; exact z)) (snd_list S G h1 hs).1 hs
        · cases h
      · cases h
  · cases h
theorem snd_meth {n : Nat} (S : SE n) (G : Good X c g k F) {o : Expr} {m : Str} {as : List Expr} {ap pos : Pos} {ir : E} (h : cMeth (cE n c) o m ap pos as = some ir) : PE X (.Call (.Attribute o m ap) as [] pos) (LE g (evE F ir)) := by
  unfold cMeth at h
  split at h
  · rename_i hc
    simp only [Bool.and_eq_true, decide_eq_true_eq] at hc
    obtain ⟨⟨⟨hb, hl⟩, hs⟩, hn⟩ := hc
    split at h <;> cases h
    rename_i mf a r hm h1 h2
    have hm := List.all_eq_true.mp mfTab_name _ (mem_of_lookup hm)
    have hm : m = mfName mf := by simpa using hm
    subst hm
    have s := (S X c g k F G o a h1).1
    cases as with
    | nil =>
      simp only [cList, Option.some.injEq] at h2
      subst h2
      exact le_meth0 G.K (by have := G.hu; omega) mf s hb hl
    | cons e es => exact le_meth G.K (by have := G.hu; omega) mf s (snd_list S G h2 hs).1 hs (by simp at hn; omega) hb hl
  · cases h
theorem own_ix {N : List Str} {scope : Scope} : True := trivial
theorem snd_opt {n : Nat} (S : SE n) (G : Good X c g k F) {o : Option Expr} {r : Eo} (h : cOpt (cE n c) o = some r) : PO X o (LO g (evO F r)) := by
  cases o with
  | none => simp only [cOpt, Option.some.injEq] at h; subst h; exact lo_none
  | some e =>
    simp only [cOpt] at h
    split at h <;> cases h
    rename_i a h1
    exact lo_some (S X c g k F G e a h1).1
theorem evGs_len (F : Fs) : ∀ {ts : Tgs} {es : List Expr} {t : Expr → Option Tg}, cTg.cTgs t es = some ts → ∀ (xs : List D) (en : En) (st : Sto) (en' : En) (st' : Sto), evGs F ts xs en st = .ok en' st' → xs.length = es.length
  | .nil, [], _, h, xs, en, st, en', st', e => by
    cases xs with
    | nil => rfl
    | cons _ _ => simp only [evGs] at e; cases e
  | .nil, _ :: _, _, h, _, _, _, _, _, _ => by simp only [cTg.cTgs] at h; split at h <;> cases h
  | .cons t r, [], _, h, _, _, _, _, _, _ => by simp only [cTg.cTgs] at h; cases h
  | .cons t r, e1 :: es, f, h, xs, en, st, en', st', e => by
    simp only [cTg.cTgs] at h
    split at h <;> cases h
    rename_i h2
    cases xs with
    | nil => simp only [evGs] at e; cases e
    | cons x xs =>
      simp only [evGs] at e
      cases q : evG F t (.d x) en st with
      | ok en2 st2 =>
        rw [q, bind_ok] at e
        simp [evGs_len F h2 xs en2 st2 en' st' e]
      | exc _ _ => rw [q] at e; cases e
      | stuck => rw [q] at e; cases e
theorem slots_of (G : Good X c g k F) {ow : Option (List Nat)} {own : Nat → Prop} (ho : ∀ i, owOk ow i = true → own i) : ∀ {xs : List Str} {is : List Nat}, slotsOf c ow xs = some is → Paired (Slot1 X) xs is ∧ ∀ i ∈ is, own i
  | [], is, h => by
    simp only [slotsOf, Option.some.injEq] at h
    subst h
    exact ⟨.nil, fun i hi => (nomatch hi)⟩
  | x :: xs, is, h => by
    unfold slotsOf at h
    split at h
    · rename_i hs
      split at h
      · rename_i i r hi hr
        split at h <;> cases h
        rename_i hw
        obtain ⟨k1, k2⟩ := slots_of G ho hr
        obtain ⟨s1, s2⟩ := stOk_of G hs
        refine ⟨.cons ⟨idx_of G hi, s1, s2⟩ k1, fun j hj => ?_⟩
        rcases List.mem_cons.mp hj with rfl | hj
        · exact ho _ hw
        · exact k2 j hj
      · cases h
    · cases h
/-- targets: the cfg c, the slots that may be set -/
theorem snd_tg {n : Nat} (S : SE n) (G : Good X c g k F) (cool : c.hot = false) {ow : Option (List Nat)} {own : Nat → Prop} (ho : ∀ i, owOk ow i = true → own i) : ∀ {j : Nat} {e : Expr} {t : Tg}, cTg c (cE n c) ow j e = some t → PG X e (LG g own (evG F t)) := by
  intro j
  induction j with
  | zero => intro e t h; cases h
  | succ j ih =>
    intro e t h
    unfold cTg at h
    split at h
    · split at h
      · rename_i hs
        split at h
        · rename_i i hi
          split at h <;> cases h
          rename_i hw
          obtain ⟨s1, s2⟩ := stOk_of G hs
          exact lg_name (by rw [G.hN]; exact G.nd) (idx_of G hi) s1 s2 (ho i hw)
        · cases h
      · cases h
    · split at h
      · rename_i es _ _ hs
        split at h <;> cases h
        rename_i ts ht
        have key : ∀ {es : List Expr} {ts : Tgs}, es.all noStar = true → cTg.cTgs (cTg c (cE n c) ow j) es = some ts → PGs X es (LGs g own (evGs F ts)) := by
          intro es
          induction es with
          | nil =>
            intro ts _ h
            simp only [cTg.cTgs, Option.some.injEq] at h
            subst h
            refine pgs_weak (lgs_nil (g := g) (own := own)) ?_
            rintro v σ H Q ⟨m, en, st, xs, rel, re, rx, out⟩
            refine ⟨m, en, st, xs, rel, re, rx, ?_⟩
            cases xs with
            | nil => simp only [evGs] at out; exact out
            | cons _ _ => simp only [evGs] at out; exact out.elim
          | cons e es ih2 =>
            intro ts hs h
            simp only [List.all_cons, Bool.and_eq_true] at hs
            simp only [cTg.cTgs] at h
            split at h <;> cases h
            rename_i h1 h2
            refine pgs_weak (lgs_cons (ih h1) (ih2 hs.2 h2) hs.1) ?_
            rintro v σ H Q ⟨m, en, st, xs, rel, re, rx, out⟩
            refine ⟨m, en, st, xs, rel, re, rx, ?_⟩
            cases xs with
            | nil => simp only [evGs] at out; exact out.elim
            | cons _ _ => simp only [evGs] at out; exact out
        refine pg_weak (lg_tup G.K (G.calm cool) (key hs ht) hs fun xs en st en' st' e => evGs_len F ht xs en st en' st' e) ?_
        rintro v σ H Q ⟨m, en, st, x, rel, re, rx, out⟩
        refine ⟨m, en, st, x, rel, re, rx, ?_⟩
        simp only [evG] at out
        exact out
      · split at h
        · rename_i xs y hst
          split at h <;> cases h
          rename_i is j h1 h2
          obtain ⟨k1, k2⟩ := slots_of G ho h1
          obtain ⟨k3, k4⟩ := slots_of G ho h2
          cases k3 with
          | cons k3 _ =>
            refine pg_weak (lg_star G.K (G.calm cool) (by rw [G.hN]; exact G.nd) (c.nw.contains y) hst k1 k3 k2 (k4 j (by simp))) ?_
            rintro v σ H Q ⟨m, en, st, x, rel, re, rx, out⟩
            refine ⟨m, en, st, x, rel, re, rx, ?_⟩
            simp only [evG] at out
            exact out
        · cases h
    · split at h
      · rename_i hs
        split at h <;> cases h
        rename_i a b h1 h2
        exact lg_sub G.K (by have := G.hu; omega) (S X c g k F G _ a h1).1 (S X c g k F G _ b h2).1 hs
      · cases h
    · cases h
theorem folded {e : Expr} (h : noSet e = true) (env : Env) : ∀ x, foldedSetIterable e env x = pure x := by
  intro x
  cases e <;> first | rfl | cases h
theorem snd_it {n : Nat} (S : SE n) (G : Good X c g k F) {tg e : Expr} {r : Ir} (h : cIt c (cE n c) tg e = some r) : PI X tg e (LI g (evI F r)) ∧ ∀ x, foldedSetIterable e X.env x = pure x := by
  unfold cIt at h
  split at h
  · rename_i hs
    refine ⟨?_, folded hs X.env⟩
    split at h
    · rename_i x p a pos
      split at h
      · rename_i hc
        simp only [Bool.and_eq_true, decide_eq_true_eq] at hc
        obtain ⟨⟨⟨rfl, h2⟩, h3⟩, h4⟩ := hc
        split at h <;> cases h
        rename_i i h5
        exact li_range1 (isGl_of G h2) (G.bl _ (by simpa using h3)) (la_cons (S X c g k F G a i h5).1 la_nil (star_cons h4 X.env)) h4
      · split at h
        · rename_i hc
          simp only [Bool.and_eq_true, decide_eq_true_eq] at hc
          obtain ⟨⟨⟨⟨rfl, h2⟩, h3⟩, h4⟩, h6⟩ := hc
          split at h <;> cases h
          rename_i i h5
          cases tg <;> first | (cases h6; done) | exact li_enum G.K (isGl_of G h2) (G.bl _ (by simpa using h3)) (la_cons (S X c g k F G a i h5).1 la_nil (star_cons h4 X.env)) h4
        · split at h <;> cases h
          rename_i i h5
          exact li_val G.K (S X c g k F G _ i h5).1
    · rename_i x p a b ks pos
      split at h
      · rename_i hx
        have hx : x = "zip" := by simpa using hx
        subst hx
        split at h
        · rename_i hc
          simp only [Bool.and_eq_true] at hc
          obtain ⟨⟨⟨h2, h3⟩, h4⟩, h6⟩ := hc
          split at h <;> cases h
          rename_i q r hq hr
          have h4' : [a, b].all noStar = true := by simpa using h4
          have la := (snd_list S G hr h4').1
          cases tg <;> first
            | (cases h6; done)
            | (unfold zipKw at hq
               split at hq
               · cases hq
                 exact li_zip (q := false) (ck := 0) (cp := pos) (kp := pos) G.K (isGl_of G h2) (G.bl _ (by simpa using h3)) la h4'
               · split at hq
                 · rename_i hx
                   have hx := of_decide_eq_true hx
                   subst hx
                   cases hq
                   exact li_zip (q := true) G.K (isGl_of G h2) (G.bl _ (by simpa using h3)) la h4'
                 · cases hq
               · cases hq)
        · cases h
      · split at h <;> cases h
        rename_i i h5
        exact li_val G.K (S X c g k F G _ i h5).1
    · split at h
      · rename_i i hd
        cases h
        unfold dnI at hd
        split at hd
        · rename_i x p
          split at hd
          · rename_i hc
            simp only [Bool.and_eq_true] at hc
            obtain ⟨⟨_, hp⟩, hv⟩ := hc
            obtain ⟨p1, p2⟩ := plain_of hp
            exact li_keys (idx_of G hd) (isVis_of G hv) p1 p2
          · cases hd
        · cases hd
      · split at h <;> cases h
        rename_i i h5
        exact li_val G.K (S X c g k F G _ i h5).1
  · cases h
end TW
namespace TW
open PySem PySem.Spec PyProof.Rows L2
variable {X : Cx} {c : Cfg} {g : Gx} {k : Nat} {F : Fs}

theorem lookup_of_uniq {names : List (Str × NameKind)} (h : ∀ y ∈ names, names.lookup y.1 = some y.2) {x : Str} {kd : NameKind} (hm : (x, kd) ∈ names) : names.lookup x = some kd := h _ hm
/-- the block's own context -/
theorem Good.blk (G : Good X c g k F) {scope : Scope} {own : List (Str × Nat)} (ok : BlkOk X.N X.env.scope scope own) (s : Shared) (H : Hp) (C : Addr) (cl : List (Str × Addr)) (fp : List Addr) : Good (X.blk s H scope (compEnvC scope cl C X.env) fp) (cfgB c scope) g.quiet k F where
  hN := G.hN
  nd := G.nd
  sc := by rw [show (X.blk s H scope (compEnvC scope cl C X.env) fp).env.scope = relS scope X.env.scope from rfl, G.sc]; rfl
  calm := G.calm
  K := G.K
  mg := G.mg
  tk := takes0
  room := G.room
  gd := G.gd
  hd := G.hd
  ask := G.ask
  xcs := G.xcs
  xr := G.xr
  gl := G.gl
  bl := G.bl
  pats := G.pats
  tb := G.tb
  top := fun h => nomatch h
  ownc := fun x hx => by
    obtain ⟨y, hy, rfl⟩ := List.mem_map.mp hx
    obtain ⟨h1, h2⟩ := List.mem_filter.mp hy
    show (scope.names.lookup y.1 == some .cell) = true
    rw [ok.uniq y h1]
    split at h2
    · rename_i e; rw [e]; rfl
    · cases h2
def plainT : Expr → Bool
  | .UnaryOp .Not _ _ => false
  | .BoolOp _ _ _ => false
  | .Compare _ _ _ _ => false
  | .IfExp _ _ _ _ => false
  | _ => true
theorem plainT_ok {e : Expr} (h : plainT e = true) (env : Env) : ∀ whole, isTrue e env whole = (do let v ← whole; standAt e.pos; holding [v] (truthy v)) := by
  intro whole
  cases e with
  | UnaryOp op _ _ => cases op <;> first | rfl | cases h
  | BoolOp _ _ _ => cases h
  | Compare _ _ _ _ => cases h
  | IfExp _ _ _ _ => cases h
  | _ => rfl
theorem lt_one {fa : En → Sto → R Vv} : (fun en st => (fa en st).bind fun x st => (truV x st).bind fun k st => if k = true then R.ok true st else R.ok false st) = tt fa := by
  funext en st
  unfold tt
  cases fa en st with
  | ok x st1 =>
    simp only [bind_ok]
    cases truV x st1 with
    | ok k st2 => cases k <;> rfl
    | exc _ _ => rfl
    | stuck => rfl
  | exc _ _ => rfl
  | stuck => rfl
theorem snd_lc {n : Nat} (S : SE n) (G : Good X c g k F) (cool : c.hot = false) {elt tg iter : Expr} {ifs : List Expr} {scope : Scope} {i : Ir} {t : Tg} {r : Es} {x : E} (hb : blkC c.N c.sc scope (ownOf c.N scope) = true) (hif : ifsOk n ifs = true)
    (h1 : cIt c (cE n c) tg iter = some i) (h2 : cTg (cfgB c scope) (cE n (cfgB c scope)) (some ((ownOf c.N scope).map (·.2))) 4 tg = some t) (h3 : cList (cE n (cfgB c scope)) ifs = some r) (h4 : cE n (cfgB c scope) elt = some x) :
    ∃ (wi : TI) (gg : TG) (t1 : TT) (te : TE), PI X tg iter wi ∧ BlkOk X.N X.env.scope scope (ownOf c.N scope) ∧
      (∀ (s : Shared) (H : Hp) (C : Addr) (cl : List (Str × Addr)) (fp : List Addr), PG (X.blk s H scope (compEnvC scope cl C X.env) fp) tg gg) ∧
      (∀ (s : Shared) (H : Hp) (C : Addr) (cl : List (Str × Addr)) (fp : List Addr), PTs (X.blk s H scope (compEnvC scope cl C X.env) fp) ifs t1) ∧
      (∀ (s : Shared) (H : Hp) (C : Addr) (cl : List (Str × Addr)) (fp : List Addr), PE (X.blk s H scope (compEnvC scope cl C X.env) fp) elt te) ∧ (∀ x, foldedSetIterable iter X.env x = pure x) ∧
      ∀ σ H Q, LF g (evE F (.lc x t i r ((ownOf c.N scope).map (·.2)))) σ H Q → tLc wi gg t1 te ((ownOf c.N scope).map (·.2)) σ H Q := by
        have ok : BlkOk X.N X.env.scope scope (ownOf c.N scope) := by rw [G.hN, G.sc]; exact blkOk_by hb
        have hN : X.N.Nodup := by rw [G.hN]; exact G.nd
        obtain ⟨pi, hs⟩ := snd_it S G (tg := tg) h1
        have hgB := fun s H C cl fp => snd_tg (own := (· ∈ (ownOf c.N scope).map (·.2))) S (G.blk ok s H C cl fp) cool (fun i hi => by simpa [owOk] using hi) h2
        have heB := fun s H C cl fp => (S _ _ _ _ _ (G.blk ok s H C cl fp) elt x h4).1
        have htB : ∀ (s : Shared) (H : Hp) (C : Addr) (cl : List (Str × Addr)) (fp : List Addr), PTs (X.blk s H scope (compEnvC scope cl C X.env) fp) ifs (LT g.quiet (evT F r)) := by
          intro s H C cl fp
          have GB := G.blk ok s H C cl fp
          cases ifs with
          | nil =>
            simp only [cList, Option.some.injEq] at h3
            subst h3
            refine ⟨fun pins s σ H Q I hw => pts_nil.run pins s σ H Q I ?_⟩
            obtain ⟨m, en, st, rel, re, out⟩ := hw
            exact out m H true .refl rel rfl
          | cons t1 ts =>
            cases ts with
            | nil =>
              simp only [cList] at h3
              split at h3
              · rename_i a r' q1 q2
                cases q2
                cases h3
                have := pts_one ((S _ _ _ _ _ GB t1 a q1).2.2 n hif)
                rw [← lt_one] at this
                refine ⟨fun pins s σ H Q I hw => this.run pins s σ H Q I ?_⟩
                obtain ⟨m, en, st, rel, re, out⟩ := hw
                exact ⟨m, en, st, rel, re, by simpa only [evT] using out⟩
              · cases h3
            | cons _ _ => cases hif
        exact ⟨_, _, _, _, pi, ok, hgB, htB, heB, hs, fun σ H Q hq => lf_lc G.K (G.calm cool) hN pi ok hgB htB heB hs σ H Q hq⟩
theorem snd_sc {n : Nat} (S : SE n) (G : Good X c g k F) (cool : c.hot = false) {elt tg iter : Expr} {ifs : List Expr} {scope : Scope} {i : Ir} {t : Tg} {r : Es} {x : E} (hb : blkC c.N c.sc scope (ownOf c.N scope) = true) (hif : ifsOk n ifs = true)
    (h1 : cIt c (cE n c) tg iter = some i) (h2 : cTg (cfgB c scope) (cE n (cfgB c scope)) (some ((ownOf c.N scope).map (·.2))) 4 tg = some t) (h3 : cList (cE n (cfgB c scope)) ifs = some r) (h4 : cE n (cfgB c scope) elt = some x) :
    ∀ {x0 : Str} {p pos pos2 : Pos}, x0 = "sorted" → isGl c x0 = true → c.bl.contains x0 = true → PE X (.Call (.Name x0 p) [.SetComp elt [⟨tg, iter, ifs, 0⟩] scope pos2] [] pos) (LF g (evE F (.srtc x t i r ((ownOf c.N scope).map (·.2))))) := by
        intro x0 p pos pos2 hx0 hgl hbl
        subst hx0
        have ok : BlkOk X.N X.env.scope scope (ownOf c.N scope) := by rw [G.hN, G.sc]; exact blkOk_by hb
        have hN : X.N.Nodup := by rw [G.hN]; exact G.nd
        obtain ⟨pi, hs⟩ := snd_it S G (tg := tg) h1
        have hgB := fun s H C cl fp => snd_tg (own := (· ∈ (ownOf c.N scope).map (·.2))) S (G.blk ok s H C cl fp) cool (fun i hi => by simpa [owOk] using hi) h2
        have heB := fun s H C cl fp => (S _ _ _ _ _ (G.blk ok s H C cl fp) elt x h4).1
        have htB : ∀ (s : Shared) (H : Hp) (C : Addr) (cl : List (Str × Addr)) (fp : List Addr), PTs (X.blk s H scope (compEnvC scope cl C X.env) fp) ifs (LT g.quiet (evT F r)) := by
          intro s H C cl fp
          have GB := G.blk ok s H C cl fp
          cases ifs with
          | nil =>
            simp only [cList, Option.some.injEq] at h3
            subst h3
            refine ⟨fun pins s σ H Q I hw => pts_nil.run pins s σ H Q I ?_⟩
            obtain ⟨m, en, st, rel, re, out⟩ := hw
            exact out m H true .refl rel rfl
          | cons t1 ts =>
            cases ts with
            | nil =>
              simp only [cList] at h3
              split at h3
              · rename_i a r' q1 q2
                cases q2
                cases h3
                have := pts_one ((S _ _ _ _ _ GB t1 a q1).2.2 n hif)
                rw [← lt_one] at this
                refine ⟨fun pins s σ H Q I hw => this.run pins s σ H Q I ?_⟩
                obtain ⟨m, en, st, rel, re, out⟩ := hw
                exact ⟨m, en, st, rel, re, by simpa only [evT] using out⟩
              · cases h3
            | cons _ _ => cases hif
        have := lf_srtc (p := p) (pos := pos) (pos2 := pos2) G.K (G.calm cool) hN G.hu (isGl_of G hgl) (G.bl _ (by simpa using hbl)) pi ok hgB htB heB hs
        refine pe_weak this ?_
        intro σ H Q hq
        simpa only [evE] using hq
theorem nope_E {e : Expr} : PE X e (LE g (evE F .nope)) ∧ (freshI .nope = true → PE X e (LF g (evE F .nope))) ∧ (∀ j, tOk j e = true → PT X e (LT g (tt (evE F .nope)))) := by
  refine ⟨⟨fun pins s σ H Q I h => ?_⟩, fun h => (nomatch h), fun j _ => ⟨fun pins s σ H Q I h => ?_⟩⟩
  · obtain ⟨m, en, st, _, _, out⟩ := h
    exact out.elim
  · obtain ⟨m, en, st, _, _, out⟩ := h
    exact out.elim
theorem snd_step {n : Nat} (S : SE n) : ∀ (X : Cx) (c : Cfg) (g : Gx) (k : Nat) (F : Fs), Good X c g k F → ∀ (e : Expr) (ir : E), (c.hot = true → hotE e = true) → cE1 (cE n) n c e = some ir → PE X e (LE g (evE F ir)) ∧ (freshI ir = true → PE X e (LF g (evE F ir))) ∧ (∀ j, tOk j e = true → PT X e (LT g (tt (evE F ir)))) := by
    intro X c g k F G e ir hh h
    -- a plain expression, its list not new
    have plain : ∀ {e : Expr} {ir : E}, PE X e (LE g (evE F ir)) → plainT e = true → freshI ir = false → PE X e (LE g (evE F ir)) ∧ (freshI ir = true → PE X e (LF g (evE F ir))) ∧ (∀ j, tOk j e = true → PT X e (LT g (tt (evE F ir)))) :=
      fun {e ir} p hp hf => ⟨p, fun z => (by rw [hf] at z; cases z), fun j _ => lt_plain G.K p (plainT_ok hp X.env)⟩
    have plainF : ∀ {e : Expr} {ir : E}, PE X e (LF g (evE F ir)) → plainT e = true → PE X e (LE g (evE F ir)) ∧ (freshI ir = true → PE X e (LF g (evE F ir))) ∧ (∀ j, tOk j e = true → PT X e (LT g (tt (evE F ir)))) :=
      fun {e ir} p hp => ⟨le_of_lf p, fun _ => p, fun j _ => lt_plain G.K (le_of_lf p) (plainT_ok hp X.env)⟩
    unfold cE1 at h
    split at h
    · -- a name
      refine plain (snd_name G h) rfl ?_
      unfold cName at h
      split at h
      · split at h
        · split at h <;> cases h; rfl
        · split at h
          · split at h
            · cases h; rfl
            · cases h
          · cases h
      · cases h
    · split at h <;> cases h
      rename_i d hd
      exact plain (snd_const hd) rfl rfl
    · split at h <;> cases h
      rename_i x y h1 h2
      split
      · rename_i hc
        simp only [Bool.and_eq_true] at hc
        rename Operator => op
        have e : op = .Mult := by cases op <;> first | rfl | cases hc.1
        subst e
        have hx : freshI x = true := by cases x <;> first | rfl | cases hc.2
        refine plainF (pe_weak (lf_lrep ((S X c g k F G _ x h1).2.1 hx) (S X c g k F G _ y h2).1) ?_) rfl
        intro σ H Q hq
        simpa only [evE] using hq
      · exact plainF (lf_bin G.K (S X c g k F G _ x h1).1 (S X c g k F G _ y h2).1) rfl
    · split at h
      · rename_i x h1
        cases h
        have s := S X c g k F G _ x h1
        refine ⟨le_not G.K s.1, fun hf => (nomatch hf), fun j hj => ?_⟩
        cases j with
        | zero => cases hj
        | succ j => exact lt_not (s.2.2 j (by simpa only [tOk] using hj))
      · rename_i x h1
        cases h
        exact plain (le_neg (S X c g k F G _ x h1).1) rfl rfl
      · cases h
    · refine ⟨(snd_bool S G h).1, (snd_bool S G h).2.1, fun j hj => ?_⟩
      cases j with
      | zero => cases hj
      | succ j => exact ((snd_bool S G h).2.2 j (by simpa only [tOk] using hj)).pt
    · split at h
      · cases h
      · rename_i hm
        have hm' := Bool.eq_false_iff.mpr hm
        split at h
        · rename_i z t neg ht hn
          split at h <;> cases h
          rename_i x h1
          have s1 := (S X c g k F G _ x h1).1
          obtain ⟨p, rfl, k1, k2, k3⟩ := snd_tab G ht
          rename CmpOp => op
          have e : op = (if neg = true then CmpOp.NotIn else .In) := by
            cases op <;> simp only [isIn, Option.some.injEq, reduceCtorEq] at hn <;> subst hn <;> rfl
          subst e
          exact ⟨le_tin neg k3 k1 k2 s1 hm', fun hf => (nomatch hf), fun _ _ => lt_tin neg k3 k1 k2 s1 hm'⟩
        · split at h
          · rename_i neg _ hn
            split at h <;> cases h
            rename_i x y h1 h2
            have s1 := (S X c g k F G _ x h1).1
            have s2 := (S X c g k F G _ y h2).1
            rename CmpOp => op
            have e : op = (if neg = true then CmpOp.NotIn else .In) := by
              cases op <;> simp only [isIn, Option.some.injEq, reduceCtorEq] at hn <;> subst hn <;> rfl
            subst e
            exact ⟨le_din G.K (by have := G.hu; omega) neg s1 s2 hm', fun hf => (nomatch hf), fun _ _ => lt_din G.K (by have := G.hu; omega) neg s1 s2 hm'⟩
          split at h <;> cases h
          rename_i x y h1 h2
          have s1 := (S X c g k F G _ x h1).1
          have s2 := (S X c g k F G _ y h2).1
          exact ⟨le_cmp G.K G.hu s1 s2 hm', fun hf => (nomatch hf), fun _ _ => lt_cmp G.K G.hu s1 s2 hm'⟩
    · split at h
      · cases h
      · rename_i hm
        split at h <;> cases h
        rename_i x y z h1 h2 h3
        have s1 := (S X c g k F G _ x h1).1
        have s2 := (S X c g k F G _ y h2).1
        have s3 := (S X c g k F G _ z h3).1
        have hm' := Bool.eq_false_iff.mpr hm
        exact ⟨le_chain G.K G.hu s1 s2 s3 hm', fun hf => (nomatch hf), fun _ _ => lt_chain G.K G.hu s1 s2 s3 hm'⟩
    · split at h
      · rename_i ht
        split at h <;> cases h
        rename_i x y z h1 h2 h3
        refine ⟨le_ite ((S X c g k F G _ x h1).2.2 n ht) (S X c g k F G _ y h2).1 (S X c g k F G _ z h3).1, fun hf => (nomatch hf), fun j hj => ?_⟩
        cases j <;> cases hj
      · cases h
    · split at h
      · rename_i hb
        simp only [Bool.and_eq_true, decide_eq_true_eq] at hb
        obtain ⟨⟨⟨⟨hx0, hgl⟩, hbl⟩, hb⟩, hif⟩ := hb
        split at h <;> cases h
        rename_i i t r x h1 h2 h3 h4
        exact plainF (snd_sc S G (hot_of (x := "sorted") (by decide) (by rw [← hx0]; exact hh)) hb hif h1 h2 h3 h4 hx0 hgl hbl) rfl
      · cases h
    · split at h
      · rename_i hi
        split at h <;> cases h
        rename_i hy
        exact plain (snd_isi S G hi hy) rfl rfl
      · split at h
        · rename_i hi
          split at h <;> cases h
          rename_i hy
          exact plain (snd_xis S G hi hy) rfl rfl
        split at h
        · rename_i srt a hd
          split at h <;> cases h
          rename_i y h1
          unfold dkOf at hd
          split at hd
          · split at hd
            · rename_i hc
              simp only [Bool.and_eq_true] at hc
              obtain ⟨⟨⟨c1, c2⟩, c3⟩, _⟩ := hc
              split at hd
              · rename_i hx
                cases hd
                exact plainF (lf_dkeys G.K (G.calm (hot_of (by have hx2 := of_decide_eq_true hx; rw [hx2]; decide) hh)) (by have := G.room.un; omega) true (by simpa using hx) (isGl_of G c1) (G.bl _ (by simpa using c2)) (S X c g k F G _ y h1).1 c3) rfl
              · split at hd
                case isFalse => cases hd
                rename_i hx
                cases hd
                exact plainF (lf_dkeys G.K (G.calm (hot_of (by have hx2 := of_decide_eq_true hx; rw [hx2]; decide) hh)) (by have := G.room.un; omega) false (by simpa using hx) (isGl_of G c1) (G.bl _ (by simpa using c2)) (S X c g k F G _ y h1).1 c3) rfl
            · cases hd
          · cases hd
        · split at h
          · rename_i srt a hd
            split at h <;> cases h
            rename_i y h1
            unfold slOf at hd
            split at hd
            · split at hd
              · rename_i hc
                simp only [Bool.and_eq_true, decide_eq_true_eq] at hc
                obtain ⟨⟨⟨⟨⟨c1, c2⟩, c3⟩, rfl⟩, c4⟩, c5⟩ := hc
                split at hd
                · rename_i hx
                  cases hd
                  exact plainF (le_setl G.K (G.calm (hot_of (by have hx2 := of_decide_eq_true hx; rw [hx2]; decide) hh)) G.hu true (by simpa using hx) (isGl_of G c1) (G.bl _ (by simpa using c2)) (isGl_of G c4) (G.bl _ (by simpa using c5)) (S X c g k F G _ y h1).1 c3) rfl
                · split at hd
                  case isFalse => cases hd
                  rename_i hx
                  cases hd
                  exact plainF (le_setl G.K (G.calm (hot_of (by have hx2 := of_decide_eq_true hx; rw [hx2]; decide) hh)) G.hu false (by simpa using hx) (isGl_of G c1) (G.bl _ (by simpa using c2)) (isGl_of G c4) (G.bl _ (by simpa using c5)) (S X c g k F G _ y h1).1 c3) rfl
              · cases hd
            · cases hd
          · exact ⟨(snd_call S G hh h).1, (snd_call S G hh h).2, fun j _ => lt_plain G.K (snd_call S G hh h).1 (plainT_ok rfl X.env)⟩
    · have p := snd_meth S G h
      refine plain p rfl ?_
      unfold cMeth at h
      split at h
      · split at h <;> cases h; rfl
      · cases h
    · split at h
      · rename_i o fn _ hb
        split at h <;> cases h
        rename_i r h1
        have xo : ∀ cc ∈ fldOf c fn, ∃ fs, XOk X.K cc fs ∧ fn ∈ fs := fun cc hcc => by
          unfold fldOf at hcc
          obtain ⟨q, hq, rfl⟩ := List.mem_map.mp hcc
          obtain ⟨k1, k2⟩ := List.mem_filter.mp hq
          exact ⟨q.2, (G.xcs q k1).1, by simpa using k2⟩
        refine plain (pe_weak (le_xfld (ms := fldOf c fn) G.K (S X c g k F G _ r h1).1 (base_ok hb _ _) xo) ?_) rfl rfl
        intro σ H Q hq
        simpa only [evE] using hq
      · cases h
    · split at h
      · rename_i hs
        split at h <;> cases h
        rename_i r h1
        exact plain (le_tup (snd_list S G h1 hs).1) rfl rfl
      · cases h
    · split at h
      · rename_i hs
        split at h <;> cases h
        rename_i r h1
        exact plainF (lf_lst (snd_list S G h1 hs).1) rfl
      · cases h
    · cases h
      refine plain (pe_weak pe_dnewK ?_) rfl rfl
      rintro σ H Q ⟨m, en, st, rel, re, out⟩
      intro d hd
      refine out m _ _ (rel.ext_fresh hd) (rel.fresh hd) ?_
      simp only [RepV, RepD]
      exact ⟨d, [], rfl, hm_some.mpr ⟨rel.fresh_ne hd, upd_same⟩, rfl, .nil⟩
    · split at h
      · rename_i hc
        simp only [Bool.and_eq_true, decide_eq_true_eq] at hc
        split at h <;> cases h
        rename_i ks vs dpos _ _ r h1
        obtain ⟨fs, q1, q2, q3, q4⟩ := snd_pairs (pos := dpos) S G h1
        refine plain ?_ rfl rfl
        have := le_disp q1 q2 q3 (fun e => by rw [e] at hc; simp at hc) hc.1
        simpa only [evE, q4] using this
      · cases h
    · split at h <;> cases h
      rename_i x h1
      exact plain (le_rev G.K (S X c g k F G _ x h1).1) rfl rfl
    · split at h <;> cases h
      rename_i x l hh h1 h2 h3
      exact plainF (lf_slc G.K (S X c g k F G _ x h1).1 (snd_opt S G h2) (snd_opt S G h3)) rfl
    · split at h
      · rename_i hs
        split at h
        · rename_i z t ht
          split at h <;> cases h
          rename_i y h1
          obtain ⟨p, rfl, k1, k2, k3⟩ := snd_tab G ht
          exact plain (le_tget G.K k3 k1 k2 (S X c g k F G _ y h1).1 (ix_ok hs)) rfl rfl
        · split at h
          · split at h <;> cases h
            rename_i x y h1 h2
            exact plain (le_dget (by have := G.hu; omega) (S X c g k F G _ x h1).1 (S X c g k F G _ y h2).1 (ix_ok hs)) rfl rfl
          split at h <;> cases h
          rename_i x y h1 h2
          exact plain (le_idx G.K G.hu (S X c g k F G _ x h1).1 (S X c g k F G _ y h2).1 hs) rfl rfl
      · cases h
    · rename_i elt tg iter ifs scope pos
      split at h
      · rename_i hb
        rw [Bool.and_eq_true] at hb
        obtain ⟨hb, hif⟩ := hb
        split at h <;> cases h
        rename_i i t r x h1 h2 h3 h4
        have hN : X.N.Nodup := by rw [G.hN]; exact G.nd
        have cool : c.hot = false := by
          cases hc : c.hot with
          | false => rfl
          | true => exact absurd (show false = true from hh hc) (by decide)
        obtain ⟨wi, gg, t1, te, pi, ok, hgB, htB, heB, hs, im⟩ := snd_lc S G cool hb hif h1 h2 h3 h4
        have p := pe_weak (pe_lc (pos := pos) (own := ownOf c.N scope) (G.calm cool) hN pi ok hgB htB heB hs) im
        unfold lockOf
        split
        · exact plainF (lf_lock p) rfl
        · exact plainF p rfl
      · cases h
    · cases h
theorem snd_all : ∀ n, SE n
  | 0 => fun X c g k F G e ir h => by
    simp only [cE, Option.some.injEq] at h
    subst h
    exact nope_E
  | n + 1 => fun X c g k F G e ir h => by
    simp only [cE, Option.some.injEq] at h
    split at h
    · have h : E.nope = ir := h
      subst h
      exact nope_E
    rename_i hh
    cases hq : cE1 (cE n) n c e with
    | none =>
      rw [hq] at h
      have h : E.nope = ir := h
      subst h
      exact nope_E
    | some x =>
      rw [hq] at h
      have h : x = ir := h
      subst h
      exact snd_step (snd_all n) X c g k F G e x (fun z => by simpa [z] using hh) hq
end TW
namespace TW
open PySem PySem.Spec PyProof.Rows L2
variable {X : Cx} {c : Cfg} {g : Gx} {k : Nat} {F : Fs}

/-! ### statements -/
def notComp : Expr → Bool
  | .ListComp _ _ _ _ => false
  | .SetComp _ _ _ _ => false
  | .DictComp _ _ _ _ _ => false
  | _ => true
def notTuple : Expr → Bool
  | .Tuple _ _ _ => false
  | _ => true
/-- where a name is given: a changeable list? -/
def asNew (c : Cfg) (x : Str) (ir : E) : E := if c.nw.contains x && freshI ir then .new ir else ir
def isD0 : Expr → Bool
  | .Dict [] [] _ => true
  | _ => false
/-- .. a dict? -/
def asNewD (c : Cfg) (x : Str) (e : Expr) (ir : E) : E := match c.dn.lookup x, isD0 e with
  | some t, true => .dnew t
  | _, _ => asNew c x ir
def isLock : E → Bool
  | .lock _ _ => true
  | _ => false
def cListN (c : Cfg) (f : Expr → Option E) : List Str → List Expr → Option Es
  | [], [] => some .nil
  | x :: xs, e :: es => match f e, cListN c f xs es with | some a, some r => some (.cons (asNewD c x e a) r) | _, _ => none
  | _, _ => none
def isLocal (c : Cfg) (x : Str) : Bool := match c.sc.names.lookup x with | some .local => true | _ => false
def isFun (c : Cfg) : Bool := match c.sc.kind with | .function => true | _ => false
/-- a, b = x, y with exchanged stores -/
def cPar (c : Cfg) (f : Expr → Option E) : Expr → Expr → Option S
  | .Tuple [.Name x px, .Name y py] _ _, .Tuple [a, b] _ _ =>
    if isFun c && isLocal c x && isLocal c y && (py.line == px.line) && decide (x ≠ y) && noStar a && noStar b && !([a, b].all (foldedForSure 8)) && !([a, b].all (constantsAlone 8)) then
      (match c.N.idxOf? x, c.N.idxOf? y, cListN c f [x, y] [a, b] with | some i, some j, some r => some (.par [i, j] r) | _, _, _ => none)
    else none
  | .Tuple [.Name x px, .Name y py, .Name z pz] _ _, .Tuple [a, b, d] _ _ =>
    if isFun c && isLocal c x && isLocal c y && isLocal c z && (py.line == px.line) && (pz.line == px.line) && decide (x ≠ y) && decide (x ≠ z) && decide (y ≠ z) && noStar a && noStar b && noStar d && !([a, b, d].all (foldedForSure 8)) && !([a, b, d].all (constantsAlone 8)) then
      (match c.N.idxOf? x, c.N.idxOf? y, c.N.idxOf? z, cListN c f [x, y, z] [a, b, d] with | some i, some j, some l, some r => some (.par [i, j, l] r) | _, _, _, _ => none)
    else none
  | _, _ => none
def nameOf : Expr → Option (Str × Pos)
  | .Name x p => some (x, p)
  | _ => none
def namesOf : List Expr → Option (List (Str × Pos))
  | [] => some []
  | e :: es => match nameOf e, namesOf es with | some p, some r => some (p :: r) | _, _ => none
/-- a, b = x, y by a tuple -/
def cParT (c : Cfg) (f : Expr → Option E) : Expr → Expr → Option S
  | .Tuple ts _ _, .Tuple vs _ _ => match namesOf ts with
    | some xs => if vs.all noStar && (xs.any fun p => !isLocal c p.1) && decide (xs.length ≤ 1000) then
        (match slotsOf c none (xs.map (·.1)), cListN c f (xs.map (·.1)) vs with | some is, some r => some (.par is r) | _, _ => none) else none
    | none => none
  | _, _ => none
/-- what may stand where a refusal is handled -/
def hotS : Stmt → Bool
  | .Assign [.Name _ _] e _ => notComp e
  | .Return _ _ => true
  | .If _ _ _ _ => true
  | .Expr _ _ => true
  | .Pass _ => true
  | _ => false
/-- the classes that a clause names -/
def namesX (c : Cfg) : Expr → Option (List (List (Str × Bool)))
  | .Name x _ => if isGl c x then (match c.xr.lookup x with | some ms => some [ms] | none => none) else none
  | .Tuple [.Name x _, .Name y _, .Name z _] _ _ => if isGl c x && isGl c y && isGl c z then (match c.xr.lookup x, c.xr.lookup y, c.xr.lookup z with | some a, some b, some d => some [a, b, d] | _, _, _ => none) else none
  | _ => none
def slotX (c : Cfg) : Option Str → Option (Option Nat)
  | none => some none
  | some n => if isLocal c n then (match c.N.idxOf? n with | some i => some (some i) | none => none) else none
def hotC (c : Cfg) : Cfg := { c with hot := true, pats := c.pats.filter (·.hot) }
def cHs (c : Cfg) (fs : Cfg → List Stmt → Option Ss) : List ExceptHandler → Option Hs
  | [] => some .nil
  | .ExceptHandler (some te) n (b0 :: su) _ :: r => (match namesX c te, slotX c n, fs (hotC c) (b0 :: su), cHs c fs r with | some ms, some i, some b, some t => some (.cons ms i b t) | _, _, _, _ => none)
  | _ => none
def cS1 (fs : Cfg → List Stmt → Option Ss) (n : Nat) (c : Cfg) (s : Stmt) : Option S := match s with
    | .Pass _ => some .pass
    | .Expr e _ => if notComp e then (match cE n c e with | some x => some (.expr x) | none => none) else none
    | .Return (some e) _ => match cE n c e with | some x => some (.ret (if c.rn && freshI x then .new x else x)) | none => none
    | .If t a b _ => if tOk n t then (match cE n c t, fs c a, fs c b with | some x, some y, some z => some (.iff x y z) | _, _, _ => none) else none
    | .While t b [] _ => if tOk n t then (match cE n c t, fs c b with | some x, some y => some (.while_ x y) | _, _ => none) else none
    | .For tg it b [] _ => match cTg c (cE n c) none 4 tg, cIt c (cE n c) tg it, fs c b with | some t, some i, some r => some (.for_ t i r) | _, _, _ => none
    | .AugAssign (.Name x _) op e _ => if stOk c x then (match c.N.idxOf? x, cE n c e with | some i, some a => some (.aug i op a) | _, _ => none) else none
    | .Assign [.Name x px] e pos => if stOk c x then (match c.N.idxOf? x, cE n c e with
        | some i, some a => if notComp e then some (.asg (.name i) (asNewD c x e a))
            else (match e with
              | .ListComp _ _ scope lp => if isLocal c x && isFun c && (px.line == lp.line) && !isLock a && !(scope.names.any fun (n, k) => n == x && (k == .local || k == .cell)) then some (.asg (.name i) (asNew c x a)) else none
              | _ => none)
        | _, _ => none) else none
    | .Raise (some (.Call (.Name x _) (a :: as) [] _)) none _ => if isGl c x && (a :: as).all noStar then (match c.xcs.lookup x, cList (cE n c) (a :: as) with | some f, some r => some (.rais x f r) | _, _ => none) else none
    | .Try b (h0 :: hs) [] [] _ => (match fs c b, cHs c fs (h0 :: hs) with | some x, some y => some (.try_ x y) | _, _ => none)
    | .Assign [tg] e _ => if c.hot = true then none else match cPar c (cE n c) tg e with
        | some r => some r
        | none => match cParT c (cE n c) tg e with
        | some r => some r
        | none => if notComp e && swNone tg e then (match cTg c (cE n c) none 4 tg, cE n c e with | some t, some a => some (.asg t a) | _, _ => none) else none
    | _ => none
def orNopeS : Option S → S
  | some x => x
  | none => .nope
mutual
def cS : Nat → Cfg → Stmt → Option S
  | 0, _, _ => some .nope
  | n + 1, c, s => some (orNopeS (if (c.hot && !hotS s) = true then none else cS1 (cSs n) n c s))
def cSs : Nat → Cfg → List Stmt → Option Ss
  | 0, _, _ => none
  | n + 1, c, ss => match ss with
    | [] => some .nil
    | s :: r => match cS n c s, cSs n c r with | some a, some b => some (.cons a b) | _, _ => none
end
theorem notComp_swaps {e : Expr} (h : notComp e = true) (t : Option Expr) (l : Nat) (env : Env) : swapsWith e t l env = pure false := by
  cases e <;> first | rfl | cases h
theorem notComp_sole {e : Expr} (h : notComp e = true) (tg : Expr) (l : Nat) (env : Env) : swapsWithSole [tg] e l env = pure false := by
  unfold swapsWithSole
  exact notComp_swaps h _ _ _
structure GoodS (X : Cx) (c : Cfg) (g : Gx) (k : Nat) (F : Fs) : Prop extends Good X c g k F where
  po : PassesOwn (model X.prog X.w) X.A X.env X.xe
  stk : X.stack = X.env :: X.outer
  frm : X.env.frame = some X.env.locals
  hpat : ∀ p ∈ c.pats, p.hot = true → PatOk X true k F p
def SS (n : Nat) : Prop := ∀ (X : Cx) (c : Cfg) (g : Gx) (k : Nat) (F : Fs), GoodS X c g k F → (∀ (s : Stmt) (ir : S), cS n c s = some ir → PS X s (LS g (evS F ir))) ∧ (∀ (ss : List Stmt) (ir : Ss), cSs n c ss = some ir → PSs X ss (LS g (evSs F ir)))
theorem le_new {e : Expr} {x : E} (s : PE X e (LE g (evE F x)) ∧ (freshI x = true → PE X e (LF g (evE F x))) ∧ (∀ j, tOk j e = true → PT X e (LT g (tt (evE F x))))) (b : Bool) : PE X e (LE g (evE F (if b && freshI x then .new x else x))) := by
  split
  · rename_i h
    rw [Bool.and_eq_true] at h
    refine pe_weak (ln_of_lf (s.2.1 h.2)) ?_
    intro σ H Q q
    simpa only [evE] using q
  · exact s.1
theorem le_newD {e : Expr} {a : E} (s : PE X e (LE g (evE F a)) ∧ (freshI a = true → PE X e (LF g (evE F a))) ∧ (∀ j, tOk j e = true → PT X e (LT g (tt (evE F a))))) (x : Str) : PE X e (LE g (evE F (asNewD c x e a))) := by
  unfold asNewD
  split
  · rename_i t _ h
    unfold isD0 at h
    split at h
    · refine pe_weak (le_dnew (g := g) t) ?_
      intro σ H Q q
      simpa only [evE] using q
    · cases h
  · exact le_new s _
theorem snd_listN {n : Nat} (S : SE n) (G : Good X c g k F) : ∀ {xs : List Str} {es : List Expr} {r : Es}, cListN c (cE n c) xs es = some r → es.all noStar = true → PA X es (LA g (evEs F r)) ∧ Len es.length (evEs F r)
  | [], [], r, h, _ => by
    simp only [cListN, Option.some.injEq] at h
    subst h
    refine ⟨la_nil, fun en st xs st' e => ?_⟩
    simp only [evEs] at e
    cases e
    rfl
  | [], _ :: _, r, h, _ => by simp only [cListN] at h; cases h
  | _ :: _, [], r, h, _ => by simp only [cListN] at h; cases h
  | x :: xs, e :: es, r, h, hs => by
    simp only [cListN] at h
    split at h <;> cases h
    rename_i a r h1 h2
    simp only [List.all_cons, Bool.and_eq_true] at hs
    obtain ⟨ih, il⟩ := snd_listN S G h2 hs.2
    refine ⟨la_cons (le_newD (S X c g k F G e a h1) x) ih (star_cons hs.1 X.env), fun en st xs st' e' => ?_⟩
    simp only [evEs] at e'
    cases q1 : evE F (asNewD c x e a) en st with
    | ok y st1 =>
      rw [q1, bind_ok] at e'
      cases q2 : evEs F r en st1 with
      | ok ys st2 =>
        rw [q2, bind_ok] at e'
        cases e'
        simp [il _ _ _ _ q2]
      | exc _ _ => rw [q2] at e'; cases e'
      | stuck => rw [q2] at e'; cases e'
    | exc _ _ => rw [q1] at e'; cases e'
    | stuck => rw [q1] at e'; cases e'
theorem snd_setLc {n : Nat} {elt : Expr} {gens : List Comprehension} {scope : Scope} {x : Str} {px lp pos : Pos} {i : Nat} {a : E} (G : Good X c g k F) (cool : c.hot = false) (hN : X.N.Nodup) (hs : stOk c x = true) (h1 : c.N.idxOf? x = some i) (h2 : cE n c (.ListComp elt gens scope lp) = some a)
    (q1 : isLocal c x = true) (q2 : isFun c = true) (q3 : (px.line == lp.line) = true) (q5 : isLock a = false) (q4 : (!(scope.names.any fun (n, k) => n == x && (k == .local || k == .cell))) = true) : PS X (.Assign [.Name x px] (.ListComp elt gens scope lp) pos) (LS g (evS F (.asg (.name i) (asNew c x a)))) := by
  have nop : PS X (.Assign [.Name x px] (.ListComp elt gens scope lp) pos) (LS g (evS F (.asg (.name i) (asNew c x .nope)))) := by
    refine ⟨fun pins s σ H D I h => ?_⟩
    obtain ⟨m, en, st, _, _, out⟩ := h
    unfold asNew at out
    rw [if_neg (by rw [Bool.and_eq_true]; exact fun z => nomatch z.2)] at out
    exact out.elim
  cases n with
  | zero => simp only [cE, Option.some.injEq] at h2; subst h2; exact nop
  | succ n =>
    simp only [cE, Option.some.injEq] at h2
    rw [if_neg (by rw [cool]; simp)] at h2
    cases hq : cE1 (cE n) n c (.ListComp elt gens scope lp) with
    | none => rw [hq] at h2; subst h2; exact nop
    | some y =>
    rw [hq] at h2
    have h2 : y = a := h2
    subst h2
    have h2 := hq
    unfold cE1 at h2
    split at h2 <;> rename_i heq <;> try (cases heq; done)
    case h_21 => cases h2
    cases heq
    split at h2
    · rename_i hb
      rw [Bool.and_eq_true] at hb
      split at h2 <;> cases h2
      rename_i i' t r y k1 k2 k3 k4
      unfold lockOf at q5 ⊢
      split at q5
      · cases q5
      obtain ⟨wi, gg, t1, te, pi, ok, hgB, htB, heB, hs', im⟩ := snd_lc (snd_all n) G cool hb.1 hb.2 k1 k2 k3 k4
      have loc : X.env.scope.names.lookup x = some .local := by
        rw [G.sc]
        unfold isLocal at q1
        split at q1
        · assumption
        · cases q1
      have fk : X.env.scope.kind = .function := by
        rw [G.sc]
        unfold isFun at q2
        split at q2
        · assumption
        · cases q2
      refine ls_asgName_of (ps_setLc (G.calm cool) hN (idx_of G h1) loc (sw_true fk loc q3 (by simpa using q4)) pi ok hgB htB heB hs') fun σ H Q hq => im σ H Q ?_
      unfold asNew at hq
      split at hq
      · exact lf_of_ln σ H Q (by simpa only [evE] using hq)
      · exact lf_of_le σ H Q hq
    · cases h2
theorem nostar_of {c : Cfg} {f : Expr → Option E} {ow : Option (List Nat)} {j : Nat} {e : Expr} {t : Tg} (h : cTg c f ow j e = some t) : noStar e = true := by
  cases j with
  | zero => cases h
  | succ j =>
    unfold cTg at h
    split at h <;> first | rfl | cases h
theorem nope_S {s : Stmt} : PS X s (LS g (evS F .nope)) := by
  refine ⟨fun pins s σ H D I h => ?_⟩
  obtain ⟨m, en, st, _, _, out⟩ := h
  exact out.elim
theorem snd_par {n : Nat} (SN : SE n) (G : Good X c g k F) (cool : c.hot = false) {tg e : Expr} {pos : Pos} {ir : S} (h : cPar c (cE n c) tg e = some ir) : PS X (.Assign [tg] e pos) (LS g (evS F ir)) := by
  have hN : X.N.Nodup := by rw [G.hN]; exact G.nd
  have loc : ∀ {x}, isLocal c x = true → X.env.scope.names.lookup x = some .local := fun {x} h => by
    rw [G.sc]
    unfold isLocal at h
    split at h
    · assumption
    · cases h
  have fk : isFun c = true → X.env.scope.kind = .function := fun h => by
    rw [G.sc]
    unfold isFun at h
    split at h
    · assumption
    · cases h
  have ixne : ∀ {x y : Str} {i j : Nat}, x ≠ y → c.N.idxOf? x = some i → c.N.idxOf? y = some j → i ≠ j := fun {x y i j} hne h1 h2 e => by
    subst e
    have := (idx_of G h1).symm.trans (idx_of G h2)
    exact hne (Option.some.inj this)
  unfold cPar at h
  split at h
  · split at h
    · rename_i hc
      simp only [Bool.and_eq_true, decide_eq_true_eq, Bool.not_eq_true'] at hc
      obtain ⟨⟨⟨⟨⟨⟨⟨⟨q1, q2⟩, q3⟩, q4⟩, q5⟩, q6⟩, q7⟩, q8⟩, q9⟩ := hc
      split at h <;> cases h
      rename_i i j r h1 h2 h3
      obtain ⟨pa, pl⟩ := snd_listN SN G h3 (by simp [q6, q7])
      exact ls_par2 (fun en st xs st' e => pl en st xs st' e) (ps_par (G.calm cool) hN (idx_of G h1) (idx_of G h2) (ixne q5 h1 h2) (loc q2) (loc q3) pa (sw2_ok (fk q1) (loc q2) (loc q3) q4 q5 q6 q7 q8 q9) (notComp_sole rfl _ _ _))
    · cases h
  · split at h
    · rename_i hc
      simp only [Bool.and_eq_true, decide_eq_true_eq, Bool.not_eq_true'] at hc
      obtain ⟨⟨⟨⟨⟨⟨⟨⟨⟨⟨⟨⟨⟨q1, q2⟩, q3⟩, q4⟩, q5⟩, q6⟩, q7⟩, q8⟩, q9⟩, q10⟩, q11⟩, q12⟩, q13⟩, q14⟩ := hc
      split at h <;> cases h
      rename_i i j l r h1 h2 h3 h4
      obtain ⟨pa, pl⟩ := snd_listN SN G h4 (by simp [q10, q11, q12])
      exact ls_par3 (fun en st xs st' e => pl en st xs st' e) (ps_par3 (G.calm cool) hN (idx_of G h1) (idx_of G h2) (idx_of G h3) (ixne q7 h1 h2) (ixne q8 h1 h3) (ixne q9 h2 h3) (loc q2) (loc q3) (loc q4) pa (sw3_ok (fk q1) (loc q2) (loc q3) (loc q4) q5 q6 q7 q8 q9 q10 q11 q12 q13 q14) (notComp_sole rfl _ _ _))
    · cases h
  · cases h
theorem names_eq : ∀ {ts : List Expr} {xs : List (Str × Pos)}, namesOf ts = some xs → ts = nms xs
  | [], xs, h => by simp only [namesOf, Option.some.injEq] at h; subst h; rfl
  | t :: ts, xs, h => by
    simp only [namesOf] at h
    split at h <;> cases h
    rename_i p r h1 h2
    rw [names_eq h2]
    unfold nameOf at h1
    split at h1 <;> cases h1
    rfl
theorem slots_ok (G : Good X c g k F) : ∀ {xs : List (Str × Pos)} {is : List Nat}, slotsOf c none (xs.map (·.1)) = some is → Paired (NmOk X) xs is
  | [], is, h => by simp only [List.map_nil, slotsOf, Option.some.injEq] at h; subst h; exact .nil
  | p :: xs, is, h => by
    simp only [List.map_cons, slotsOf] at h
    split at h
    · rename_i hs
      split at h
      · rename_i i r h1 h2
        split at h <;> cases h
        obtain ⟨s1, s2⟩ := stOk_of G hs
        exact .cons ⟨idx_of G h1, s1, s2⟩ (slots_ok G h2)
      · cases h
    · cases h
theorem snd_parT {n : Nat} (SN : SE n) (G : Good X c g k F) (cool : c.hot = false) {tg e : Expr} {pos : Pos} {ir : S} (h : cParT c (cE n c) tg e = some ir) : PS X (.Assign [tg] e pos) (LS g (evS F ir)) := by
  have hN : X.N.Nodup := by rw [G.hN]; exact G.nd
  unfold cParT at h
  split at h
  · split at h
    · rename_i xs hx
      split at h
      · rename_i hc
        simp only [Bool.and_eq_true, decide_eq_true_eq] at hc
        split at h <;> cases h
        rename_i is r h1 h2
        have := names_eq hx
        subst this
        obtain ⟨pa, pl⟩ := snd_listN SN G h2 hc.1.1
        refine ls_parT hN (G.calm cool) (slots_ok G h1) pa hc.2 (notComp_sole rfl _ _ _) ?_
        obtain ⟨p, hp, hl⟩ := List.any_eq_true.mp hc.1.2
        refine swC_ok (t := .Name p.1 p.2) (by unfold nms; exact List.mem_map.mpr ⟨p, hp, rfl⟩) ?_
        intro x px e
        cases e
        rw [G.sc]
        intro hq
        unfold isLocal at hl
        rw [hq] at hl
        cases hl
      · cases h
    · cases h
  · cases h
theorem any3 {K : PySem.W.Frag} {cls c1 c2 c3 : Value} {b1 b2 b3 : Bool} (h1 : PySem.W.exmOne K cls c1 = some b1) (h2 : PySem.W.exmOne K cls c2 = some b2) (h3 : PySem.W.exmOne K cls c3 = some b3) : PySem.W.exmAny K cls [c1, c2, c3] = some (b1 || (b2 || b3)) := by
  simp only [PySem.W.exmAny, h1, h2, h3]
  cases b1 <;> cases b2 <;> cases b3 <;> rfl
theorem names_of (G : Good X c g k F) {x : Str} {ms : List (Str × Bool)} (hg : isGl c x = true) (h : c.xr.lookup x = some ms) : ∃ hv, Names X x hv ∧ ∀ cc b, ms.lookup cc = some b → ∃ C, PySem.W.nsIn X.K mainGlobals cc = some (some (.ref C)) ∧ PySem.W.exmOne X.K (.ref C) hv = some b := by
  obtain ⟨hv, hw, n1, n2, n3, n4⟩ := G.xr x ms h
  refine ⟨hv, ⟨isGl_of G hg, n1⟩, fun cc b hb => ?_⟩
  obtain ⟨C, k1, k2, k3, k4⟩ := n4 cc b hb
  exact ⟨C, k1, k3⟩
/-- a clause's test -/
theorem snd_test (G : Good X c g k F) {te : Expr} {ms : List (List (Str × Bool))} (h : namesX c te = some ms) : ∃ test, TestG X te test ∧ ∀ cc b, anyX ms cc = some b → ∃ cls, PySem.W.nsIn X.K mainGlobals cc = some (some cls) ∧ test cls = some b := by
  unfold namesX at h
  split at h
  · split at h
    · rename_i hg
      split at h <;> cases h
      rename_i m1 h1
      obtain ⟨v1, n1, q1⟩ := names_of G hg h1
      refine ⟨_, test_name n1, fun cc b hb => ?_⟩
      simp only [anyX] at hb
      split at hb
      · rename_i b1 d1 e1 e2
        cases e2
        cases hb
        obtain ⟨C, k1, k2⟩ := q1 cc _ e1
        exact ⟨.ref C, k1, by rw [Bool.or_false]; exact k2⟩
      · cases hb
    · cases h
  · split at h
    · rename_i hg
      simp only [Bool.and_eq_true] at hg
      split at h <;> cases h
      rename_i m1 m2 m3 h1 h2 h3
      obtain ⟨v1, n1, q1⟩ := names_of G hg.1.1 h1
      obtain ⟨v2, n2, q2⟩ := names_of G hg.1.2 h2
      obtain ⟨v3, n3, q3⟩ := names_of G hg.2 h3
      refine ⟨_, test_tup3 n1 n2 n3, fun cc b hb => ?_⟩
      simp only [anyX] at hb
      split at hb
      · rename_i b1 d1 e1 f1
        cases hb
        split at f1
        · rename_i b2 d2 e2 f2
          cases f1
          split at f2
          · rename_i b3 d3 e3 f3
            cases f3
            cases f2
            obtain ⟨C, k1, k2⟩ := q1 cc _ e1
            obtain ⟨C2, k3, k4⟩ := q2 cc _ e2
            obtain ⟨C3, k5, k6⟩ := q3 cc _ e3
            rw [k1] at k3; cases k3
            rw [k1] at k5; cases k5
            refine ⟨.ref C, k1, ?_⟩
            rw [any3 k2 k4 k6, Bool.or_false]
          · cases f2
        · cases f1
      · cases hb
    · cases h
  · cases h
theorem snd_try {n : Nat} (I : SS n) (G : GoodS X c g k F) (cool : c.hot = false) {b : List Stmt} {h0 : ExceptHandler} {hs : List ExceptHandler} {pos : Pos} {x : Ss} {y : Hs} (h1 : cSs n c b = some x) (h2 : cHs c (cSs n) (h0 :: hs) = some y) : PS X (.Try b (h0 :: hs) [] [] pos) (LS g (evS F (.try_ x y))) := by
  have hN : X.N.Nodup := by rw [G.hN]; exact G.nd
  have hot : ∀ (a : Addr) (pn : List (Addr × Obj)), GoodS (hotX X a pn) (hotC c) ⟨g.K, g.mg, fun _ _ _ _ => False⟩ k F := fun a pn => {
    hN := G.hN, nd := G.nd, sc := G.sc, calm := (fun z => nomatch z), K := G.K, mg := G.mg, tk := takes0, room := ⟨G.room.dp, G.room.un⟩, hd := (fun z => nomatch z), gd := G.gd, gl := G.gl, bl := G.bl,
    pats := fun p hp => G.hpat p (List.mem_filter.mp hp).1 (List.mem_filter.mp hp).2, top := G.top, ownc := G.ownc, tb := G.tb, ask := G.ask, xcs := G.xcs, xr := G.xr, po := PassesOwn.never, stk := G.stk, frm := G.frm,
    hpat := fun p hp h => G.hpat p (List.mem_filter.mp hp).1 h }
  have hds : ∀ {l : List ExceptHandler} {t : Hs}, cHs c (cSs n) l = some t → ∃ hl, HdG X l hl ∧ HsR g.K F g t hl := by
    intro l
    induction l with
    | nil => intro t h; simp only [cHs, Option.some.injEq] at h; subst h; exact ⟨[], .nil, .nil⟩
    | cons e r ih =>
      intro t h
      unfold cHs at h
      split at h
      · rename_i heq; cases heq
      · rename_i te nm b0 su p r2 heq
        cases heq
        split at h <;> cases h
        rename_i ms i bb tt k1 k2 k3 k4
        obtain ⟨hl, q1, q2⟩ := ih k4
        obtain ⟨test, q3, q4⟩ := snd_test G.toGood k1
        have q4 : ∀ cc b, anyX ms cc = some b → ∃ cls, PySem.W.nsIn g.K mainGlobals cc = some (some cls) ∧ test cls = some b := by rw [G.K]; exact q4
        have su : ∀ a pn, PSs (hotX X a pn) (b0 :: su) (LS ⟨g.K, g.mg, fun _ _ _ _ => False⟩ (evSs F bb)) := fun a pn => (I _ _ _ _ _ (hot a pn)).2 _ bb k3
        unfold slotX at k2
        split at k2
        · cases k2
          exact ⟨_, .anon q3 su q1, .cons q4 q2⟩
        · split at k2
          · rename_i hloc
            split at k2 <;> cases k2
            rename_i j hj
            refine ⟨_, .as q3 su (idx_of G.toGood hj) ?_ q1, .cons q4 q2⟩
            show X.env.scope.names.lookup _ = some .local
            rw [G.sc]
            unfold isLocal at hloc
            split at hloc
            · assumption
            · cases hloc
          · cases k2
      · cases h
  obtain ⟨hl, q1, q2⟩ := hds h2
  refine ps_weak (ls_try (fb := evSs F x) G.stk G.frm hN G.K G.tk (fun W pn xe tk po => ?_) q1 q2) ?_
  · exact (I (X.tr pn xe) c ⟨g.K, g.mg, W⟩ k F { hN := G.hN, nd := G.nd, sc := G.sc, calm := G.calm, K := G.K, mg := G.mg, tk := tk, room := G.room, hd := G.hd, gd := G.gd, gl := G.gl, bl := G.bl, pats := G.pats, top := G.top, ownc := G.ownc, tb := G.tb, ask := G.ask, xcs := G.xcs, xr := G.xr, po := po, stk := G.stk, frm := G.frm, hpat := G.hpat }).2 _ x h1
  · intro D σ H hq
    simpa only [evS] using hq
theorem snd_stmts : ∀ n, SS n
  | 0 => fun _ _ _ _ _ _ => ⟨fun s ir h => (by simp only [cS, Option.some.injEq] at h; subst h; exact nope_S), fun s ir h => (by simp only [cSs] at h; cases h)⟩
  | n + 1 => by
    have I := snd_stmts n
    have S := snd_all n
    intro X c g k F G
    have hN : X.N.Nodup := by rw [G.hN]; exact G.nd
    refine ⟨fun s ir h => ?_, fun ss ir h => ?_⟩
    · simp only [cS, Option.some.injEq] at h
      split at h
      · have h : TW.S.nope = ir := h
        subst h
        exact nope_S
      rename_i hh
      have cool : hotS s = false → c.hot = false := fun z => by
        cases hc : c.hot with
        | false => rfl
        | true => simp [hc, z] at hh
      clear hh
      cases hq : cS1 (cSs n) n c s with
      | none => rw [hq] at h; subst h; exact nope_S
      | some ir' =>
      rw [hq] at h
      have h : ir' = ir := h
      subst h
      have h := hq
      clear hq
      unfold cS1 at h
      split at h
      · cases h; exact ls_pass
      · split at h
        · rename_i hc
          split at h <;> cases h
          rename_i x h1
          exact ls_expr (S X c g k F G.toGood _ x h1).1 (notComp_swaps hc _ _ _)
        · cases h
      · split at h <;> cases h
        rename_i x h1
        exact ls_ret (le_new (S X c g k F G.toGood _ x h1) _)
      · split at h
        · rename_i ht
          split at h <;> cases h
          rename_i x y z h1 h2 h3
          exact ls_if ((S X c g k F G.toGood _ x h1).2.2 n ht) ((I X c g k F G).2 _ y h2) ((I X c g k F G).2 _ z h3)
        · cases h
      · split at h
        · rename_i ht
          split at h <;> cases h
          rename_i x y h1 h2
          exact ls_while WF G.po ((S X c g k F G.toGood _ x h1).2.2 n ht) ((I X c g k F G).2 _ y h2)
        · cases h
      · split at h <;> cases h
        rename_i t i r h1 h2 h3
        obtain ⟨pi, hs⟩ := snd_it S G.toGood (tg := _) h2
        exact ls_for G.po (G.calm (cool rfl)) pi (snd_tg (own := fun _ => True) S G.toGood (cool rfl) (fun _ _ => trivial) h1) ((I X c g k F G).2 _ r h3) hs
      · split at h
        · rename_i hs
          split at h <;> cases h
          rename_i i a h1 h2
          obtain ⟨s1, s2⟩ := stOk_of G.toGood hs
          exact ls_aug G.K hN (idx_of G.toGood h1) s1 s2 (S X c g k F G.toGood _ a h2).1
        · cases h
      · split at h
        · rename_i x px e pos hs
          split at h
          · rename_i i a h1 h2
            obtain ⟨s1, s2⟩ := stOk_of G.toGood hs
            have p := le_newD (c := c) (S X c g k F G.toGood _ a h2) x
            split at h
            · rename_i hc
              cases h
              exact ls_asgName_of (ps_set hN (idx_of G.toGood h1) s1 p (notComp_swaps hc _ _ _) s2) fun _ _ _ q => q
            · split at h
              · split at h
                · rename_i elt gens scope lp _ hq
                  cases h
                  simp only [Bool.and_eq_true] at hq
                  obtain ⟨⟨⟨⟨q1, q2⟩, q3⟩, q5⟩, q4⟩ := hq
                  exact snd_setLc G.toGood (cool rfl) hN hs h1 h2 q1 q2 q3 (by simpa using q5) q4
                · cases h
              · cases h
          · cases h
        · cases h
      · split at h
        · rename_i hc
          simp only [Bool.and_eq_true] at hc
          split at h <;> cases h
          rename_i f r h1 h2
          have hm := mem_of_lookup h1
          exact ls_raise G.K (G.calm (cool rfl)) G.tk (by have := G.room; exact ⟨G.hd (cool rfl), by have := this.dp; omega, by have := this.un; omega⟩) (G.xcs _ hm).2 (isGl_of G.toGood hc.1) (snd_list S G.toGood h2 hc.2).1 (star_cons (by have z := hc.2; rw [List.all_cons, Bool.and_eq_true] at z; exact z.1) _) (star_any (by have z := hc.2; rw [List.all_cons, Bool.and_eq_true] at z; exact z.2) _ _)
        · cases h
      · split at h <;> cases h
        rename_i x y h1 h2
        exact snd_try I G (cool rfl) h1 h2
      · split at h
        · cases h
        rename_i hc2
        have cool2 : c.hot = false := by simpa using hc2
        split at h
        · rename_i r hr
          cases h
          exact snd_par S G.toGood cool2 hr
        · split at h
          · rename_i r hr
            cases h
            exact snd_parT S G.toGood cool2 hr
          split at h
          · rename_i hc
            rw [Bool.and_eq_true] at hc
            split at h <;> cases h
            rename_i t a h1 h2
            exact ls_asg_of (ps_asg (S X c g k F G.toGood _ a h2).1 (snd_tg (own := fun _ => True) S G.toGood cool2 (fun _ _ => trivial) h1) (notComp_sole hc.1 _ _ _) (swNone_ok hc.2 _) (by
              have := assign_cons (es := []) (nostar_of h1) X.env
              simpa [assignEach] using this))
          · cases h
      · cases h
    · unfold cSs at h
      split at h
      · cases h; exact ls_nil
      · split at h <;> cases h
        rename_i a b h1 h2
        exact ls_cons ((I X c g k F G).1 _ a h1) ((I X c g k F G).2 _ b h2)
end TW
namespace TW
open PySem PySem.Spec PyProof.Rows L2

/-! ### a program -/
/-- a def of the text: its statement, parameters, names by slot, the names that hold changeable lists -/
structure DI where
  nm : Str
  id : Nat
  st : Stmt
  ps : List Str
  N : List Str
  nw : List Str
  rn : Bool
  dn : List (Str × Bool)
  hot : Bool := false
structure Pg where
  gl : List (Str × D)
  bl : List Str
  pats : List Pat
  tb : List (Str × List (Str × D))
  xcs : List (Str × List Str) := []
  xr : List (Str × List (Str × Bool)) := []
def cfgOf (p : Pg) (d : DI) : Cfg := ⟨d.N, defScope d.st, true, [], p.gl, p.bl, if d.hot = true then p.pats.filter (·.hot) else p.pats, d.nw, d.rn, p.tb, d.dn, d.hot, p.xcs, p.xr⟩
/-- the defs' bodies -/
abbrev Tbl := Nat → Option (Nat × Ss)
def Fn (t : Tbl) : Nat → Fs
  | 0 => fun _ _ _ => .stuck
  | k + 1 => fun i vs st => match t i with
    | some (n, b) => runF n (evSs (Fn t k) b) vs st
    | none => .stuck
structure DOk (K : PySem.W.Frag) (d : DI) (f : Addr) (fd : FuncData) : Prop where
  ex : ∃ (oc : Value) (od : Option Addr) (dV kV doc pm : Value) (an : Option Addr) (cdv ct : Value) (osl : Array (Option Value)),
    fd = PySem.W.fnOf d.nm d.nm (defArgs d.st) (defBody d.st) (defScope d.st) dV kV doc pm an cdv ct ∧ K.lookup f = some ⟨oc, od, .func fd, osl⟩ ∧ PySem.W.codeIn K cdv d.nm = true
/-- a def's text is resolved -/
structure DC (p : Pg) (t : Tbl) (d : DI) : Prop where
  sc : FnScope d.N d.ps (defScope d.st)
  ir : ∃ b, t d.id = some (d.N.length, b) ∧ cSs 60 (cfgOf p d) (defBody d.st) = some b
/-- the facts behind the top -/
structure PgOk (Pr : Program) (w : World) (K : PySem.W.Frag) (mg : Str → Option Value) (p : Pg) (t : Tbl) (ds : List DI) (fs : List Addr) (fds : List FuncData) : Prop where
  gl : ∀ x d, p.gl.lookup x = some d → ∃ u v, mg x = some u ∧ RelV v u ∧ ∀ H, RepD K H d v
  bl : ∀ x ∈ p.bl, mg x = none
  tb : ∀ x t, p.tb.lookup x = some t → TabOk K w mg x t
  ask : p.xr ≠ [] → AskB K
  xcs : ∀ q ∈ p.xcs, XOk K q.1 q.2 ∧ XcOk Pr w K mg q.1 q.2
  xr : ∀ h ms, p.xr.lookup h = some ms → XrOk K mg h ms
  d : ∀ (i : Nat) d, ds[i]? = some d → ∃ f fd, fs[i]? = some f ∧ fds[i]? = some fd ∧ DOk K d f fd ∧ DC p t d
  pats : ∀ q ∈ p.pats, ∃ (i : Nat) (d : DI) (f : Addr) (fd : FuncData), ds[i]? = some d ∧ fs[i]? = some f ∧ fds[i]? = some fd ∧ d.id = q.fn ∧ d.hot = q.hot ∧ mg q.name = some (.ref f) ∧ PySem.W.keepIn K (.ref f) = true ∧ q.ord.length = d.ps.length ∧
    ∀ (s : Shared) (us ws : List Value), K.In s.heap → us.length = q.npos → ws.length = q.ks.length → ∃ zs, BindsTo s fd ⟨us, q.ks.zip ws⟩ (d.ps.zip zs) ∧ ArrV K (us ++ ws) q.ord zs
theorem spD_len {K : PySem.W.Frag} {mg : Str → Option Value} {n : Nat} {f : List Vv → Sto → R Vv} {vs : List V} {H : Hp} {Q : VK} {E : XK} (h : spD K mg n f vs H Q E) : vs.length = n := by
  obtain ⟨m, xs, st, hl, rel, rx, _⟩ := h
  rw [← hl, Paired.length rx]
theorem prog_ok {P : Program} {w : World} {K : PySem.W.Frag} {mg : Str → Option Value} {base : Heap} {p : Pg} {t : Tbl} {ds : List DI} {fs : List Addr} {fds : List FuncData} (O : PgOk P w K mg p t ds fs fds) :
    ∀ (k : Nat) (i : Nat) (d : DI) (f : Addr) (fd : FuncData), ds[i]? = some d → fs[i]? = some f → fds[i]? = some fd → FnG P w K mg base (L2.CX P w) d.hot k f fd d.ps (spD K mg d.ps.length (Fn t k d.id)) := by
  intro k
  induction k with
  | zero =>
    intro i d f fd _ _ _
    refine ⟨fun vs H Q E h => spD_len h, fun A outer s H args us vs Q E _ _ _ _ _ _ h => ?_⟩
    obtain ⟨m, xs, st, _, _, _, h⟩ := h
    exact h.elim
  | succ k ih =>
    intro i d f fd hd hf hfd
    obtain ⟨f', fd', e1, e2, D, C⟩ := O.d i d hd
    rw [hf] at e1; cases e1
    rw [hfd] at e2; cases e2
    obtain ⟨oc, od, dV, kV, doc, pm, an, cdv, ct, osl, rfl, lk, hcd⟩ := D.ex
    obtain ⟨b, hb, hc⟩ := C.ir
    refine fn_ofG lk hcd C.sc (fun vs H Q E h => spD_len h) fun A outer s H vs Q E hr hdl gd h => ?_
    have h' : spD K mg d.ps.length (runF d.N.length (evSs (Fn t k) b)) vs H Q E := by
      obtain ⟨m, xs, st, q1, q2, q3, q4⟩ := h
      refine ⟨m, xs, st, q1, q2, q3, ?_⟩
      have : Fn t (k + 1) d.id xs st = runF d.N.length (evSs (Fn t k) b) xs st := by
        show (match t d.id with | some (n, b) => runF n (evSs (Fn t k) b) xs st | none => .stuck) = _
        rw [hb]
      rw [this] at q4
      exact q4
    refine ⟨_, ?_, body_of h'⟩
    have G : GoodS (cxG d.hot (L2.CX P w) P w K mg base d.N d.nm (defScope d.st) f cdv A outer s H E) (cfgOf p d) ⟨K, mg, fun cls d _ H => E cls d H⟩ k (Fn t k) := {
      hN := rfl, nd := C.sc.nd, sc := rfl, calm := (fun z => by have z : d.hot = false := z; show (!d.hot) = true; rw [z]; rfl), K := rfl, mg := rfl, tk := takes_of rfl rfl rfl rfl, room := hr, hd := hdl, gd := gd, ask := O.ask, xcs := O.xcs, xr := O.xr, stk := rfl, frm := rfl,
      hpat := fun q hq hh => by
        have hq : q ∈ p.pats := by
          have hq : q ∈ (if d.hot = true then p.pats.filter (·.hot) else p.pats) := hq
          split at hq
          · exact (List.mem_filter.mp hq).1
          · exact hq
        obtain ⟨i', d', f', fd', h1, h2, h3, h0, hq2, h4, h5, h6, h7⟩ := O.pats q hq
        have z := ih i' d' f' fd' h1 h2 h3
        rw [hq2, hh] at z
        exact ⟨f', fd', d'.ps, h4, h5, h0 ▸ z, h6, h7⟩, gl := O.gl, bl := O.bl,
      pats := fun q hq => by
        have hq : q ∈ (if d.hot = true then p.pats.filter (·.hot) else p.pats) := hq
        show PatOk _ d.hot _ _ _
        split at hq
        · rename_i hh
          obtain ⟨hq1, hq3⟩ := List.mem_filter.mp hq
          obtain ⟨i', d', f', fd', h1, h2, h3, h0, hq2, h4, h5, h6, h7⟩ := O.pats q hq1
          have z := ih i' d' f' fd' h1 h2 h3
          rw [hq2, hq3] at z
          rw [hh]
          exact ⟨f', fd', d'.ps, h4, h5, h0 ▸ z, h6, h7⟩
        · rename_i hh
          obtain ⟨i', d', f', fd', h1, h2, h3, h0, hq2, h4, h5, h6, h7⟩ := O.pats q hq
          have z := (ih i' d' f' fd' h1 h2 h3).cool
          rw [Bool.eq_false_iff.mpr hh]
          exact ⟨f', fd', d'.ps, h4, h5, h0 ▸ z, h6, h7⟩,
      top := fun _ _ => rfl, ownc := fun x hx => (nomatch hx), tb := O.tb, po := passes_of rfl }
    exact ((snd_stmts 60 _ _ _ _ _ G).2 _ b hc)
/-- the law's own promise -/
def spLaw (K : PySem.W.Frag) (n : Nat) : Sp := fun vs H Q _ => ∃ (a : Addr) (ns : List Int), vs = [.ref a] ∧ SqL K H a (ns.map V.int) ∧ ns.length ≤ n ∧ ∀ H', Q (.bl true) H'
theorem law_sp {K : PySem.W.Frag} {mg : Str → Option Value} {f : List Vv → Sto → R Vv} {n : Nat} (hn : n ≤ sizeLine) (hf : ∀ ns : List Int, ns.length ≤ n → f [.d (.lst (ns.map D.int))] [] = .ok (.d (.bl true)) []) (vs : List V) (H : Hp) (Q : VK) (E : XK) (h : spLaw K n vs H Q E) :
    spD K mg 1 f vs H Q E := by
  obtain ⟨a, ns, rfl, hS, hl, hq⟩ := h
  have hrep : ∀ ns : List Int, RepDs K (hm ⟨[], []⟩ H) (ns.map D.int) (ns.map V.int) := by
    intro ns
    induction ns with
    | nil => exact .nil
    | cons x r ih => exact .cons (by simp only [RepD]) ih
  have he : hm ⟨[], []⟩ H = H := by
    funext b
    unfold hm
    simp
  refine ⟨⟨[], []⟩, [.d (.lst (ns.map D.int))], [], rfl, ⟨rfl, .nil, fun i o a h => by simp at h, fun a ha => nomatch ha⟩, .cons ?_ .nil, ?_⟩
  · simp only [RepV, RepD]
    exact ⟨a, _, rfl, by rw [he]; exact hS, by rw [List.length_map]; omega, hrep ns⟩
  · rw [hf ns hl]
    intro m' H' v _ _ r
    simp only [RepV, RepD] at r
    rw [r]
    exact hq H'
/-- one table within another -/
def Sub (a b : Tbl) : Prop := ∀ i r, a i = some r → b i = some r
theorem Sub.refl (a : Tbl) : Sub a a := fun _ _ h => h
theorem Sub.trans {a b c : Tbl} (h : Sub a b) (g : Sub b c) : Sub a c := fun i r q => g i r (h i r q)
theorem fn_at {c t : Tbl} (T : Sub c t) {i n : Nat} {b : Ss} (h : c i = some (n, b)) (k : Nat) (vs : List Vv) (st : Sto) : Fn t (k + 1) i vs st = runF n (evSs (Fn t k) b) vs st := by
  show (match t i with | some (n, b) => runF n (evSs (Fn t k) b) vs st | none => .stuck) = _
  rw [T i _ h]
theorem rep_glob_tup {K : PySem.W.Frag} {H : Hp} {a : Addr} {od : Option Addr} {sl : Array (Option Value)} {n : Nat} {its : Array Value} {ds : List D} {vs : List V} (l : K.lookup a = some ⟨.type "tuple", od, .seq its n, sl⟩) (hv : Vals vs its.toList) (hl : its.size ≤ 10000) (hr : RepDs K H ds vs) (hp : pairT ds = false := by rfl) : RepD K H (.tup ds) (.ref a) := by
  simp only [RepD]
  have h1 : its.size ≤ sizeLine := by rw [sizeLine_eq]; omega
  exact ⟨a, vs, rfl, .inr ⟨_, its, n, l, rfl, rfl, h1, hv⟩, by rw [hr.length, hv.length, Array.length_toList]; exact h1, hr, fun z => by rw [hp] at z; cases z⟩
theorem cx_false {P : Program} {w : World} {H : Hp} {s : Shared} {e : Value} {s' : Shared} (h : L2.CX P w [] H s (fun _ _ _ => False) e s') : False := by
  obtain ⟨_, _, _, _, _, _, _, _, _, _, _, _, h⟩ := h
  exact h
end TW
set_option maxHeartbeats 1000000
namespace TW
open PySem PySem.Spec PyProof.Rows L2

/-! ### the classes of refusals, from what the written part tells -/
/-- the n-th statement of a class -/
def clsS (c : Stmt) (n : Nat) : Stmt := match c with
  | .ClassDef _ _ _ b _ _ _ _ _ _ _ => b.getD n (.Pass ⟨0, 0, 0, 0⟩)
  | s => s
def fldS : Stmt → Option Str
  | .Assign [.Attribute (.Name s _) f _] (.Name g _) _ => if decide (s = "self") && decide (g = f) then some f else none
  | _ => none
def iniS : Stmt → Option Str
  | .Expr (.Call (.Attribute (.Name bn _) m p2) [.Name s _, .Constant (.str _) _ _] [] p5) _ => if decide (m = "__init__") && decide (s = "self") && (p2.endLine == p5.line) then some bn else none
  | _ => none
/-- an __init__'s body: whose __init__ it calls, its fields -/
def initB : List Stmt → Option (Str × List Str)
  | [a, b] => (match iniS a, fldS b with | some n, some f => some (n, [f]) | _, _ => none)
  | [a, b, c] => (match iniS a, fldS b, fldS c with | some n, some f, some g => some (n, [f, g]) | _, _, _ => none)
  | _ => none
theorem iniS_of {s : Stmt} {bn : Str} (h : iniS s = some bn) : ∃ txt n p1 p2 p3 p4 p5 p6, s = sInit bn txt n p1 p2 p3 p4 p5 p6 ∧ (p2.endLine == p5.line) = true := by
  unfold iniS at h
  split at h
  · split at h <;> cases h
    rename_i hc
    simp only [Bool.and_eq_true, decide_eq_true_eq] at hc
    obtain ⟨⟨rfl, rfl⟩, hl⟩ := hc
    exact ⟨_, _, _, _, _, _, _, _, rfl, hl⟩
  · cases h
theorem fldS_of {s : Stmt} {f : Str} (h : fldS s = some f) : ∃ p1 p2 p3 p4, s = sFld f p1 p2 p3 p4 := by
  unfold fldS at h
  split at h
  · split at h <;> cases h
    rename_i hc
    simp only [Bool.and_eq_true, decide_eq_true_eq] at hc
    obtain ⟨rfl, rfl⟩ := hc
    exact ⟨_, _, _, _, rfl⟩
  · cases h
def plainF (f : Str) : Bool := !(f == ("__debug__" : Str)) && !(f == ("__classdict__" : Str))
/-- what is asked of a class's record, all at once -/
def ownB (K : PySem.W.Frag) (C : Addr) (fs : List Str) : Bool :=
  decide (PySem.W.findIn K (.ref C) "__setattr__" = some (some (.builtin "object.__setattr__"))) && (decide (PySem.W.subIn K (.ref C) (.type "BaseException") = some true) && (decide (PySem.W.typeIn K (.ref C) = some (.type "type")) && (PySem.W.keepIn K (.ref C) &&
  (askCB K C && fs.all fun f => decide (PySem.W.findIn K (.ref C) f = some none) && plainF f))))
where askCB (K : PySem.W.Frag) (C : Addr) : Bool := (PySem.W.clsIn K C).isSome && (decide (PySem.W.findIn K (.ref C) "__getattribute__" = some (some (.builtin "BaseException.__getattribute__"))) && (decide (PySem.W.findIn K (.ref C) "__getattr__" = some none) &&
  (decide (PySem.W.subIn K (.ref C) (.type "BaseException") = some true) && (PySem.W.hasDictIn K C && (decide (PySem.W.findIn K (.ref C) "__class__" = some (some (.builtin "object.__class__"))) && decide (PySem.W.mroIn K C (.type "object") = some true))))))
theorem askC_of {K : PySem.W.Frag} {C : Addr} (h : ownB.askCB K C = true) : AskC K C := by
  unfold ownB.askCB at h
  simp only [Bool.and_eq_true, decide_eq_true_eq] at h
  obtain ⟨h1, h2, h3, h4, h5, h6, h7⟩ := h
  exact ⟨h1, h2, h3, h4, h5, h6, h7⟩
def baseNB (K : PySem.W.Frag) (Bc : Addr) (ini : String) : Bool :=
  decide (PySem.W.specialIn K (.ref Bc) "__getattribute__" = some (some (.builtin "type.__getattribute__"))) && (PySem.W.readsIn K Bc (.type "type") && ((match PySem.W.findCls K (.ref Bc) (.type "type") "__init__" with | some (.val (.builtin i)) => decide (i = ini) | _ => false) &&
  PySem.W.handedIn (.builtin ini)))
theorem baseN_of {K : PySem.W.Frag} {mg : Str → Option Value} {bn : Str} {Bc : Addr} {ini : String} (hm : mg bn = some (.ref Bc)) (hd : plainF bn = true) (h : baseNB K Bc ini = true) : BaseN K mg bn ini := by
  unfold baseNB at h
  simp only [Bool.and_eq_true, decide_eq_true_eq] at h
  obtain ⟨h1, h2, h3, h4⟩ := h
  unfold plainF at hd
  simp only [Bool.and_eq_true, Bool.not_eq_true'] at hd
  refine ⟨⟨Bc, hm, h1, h2, ?_⟩, hd.1, h4⟩
  split at h3
  · rename_i i hi
    rw [hi, of_decide_eq_true h3]
  · cases h3
section
variable {Pr : Program} {w : World} {K : PySem.W.Frag} {mg : Str → Option Value} {C fI aT : Addr} {c nm ql bn : Str} {prm : Arguments} {body : List Stmt} {sc : Scope} {dV kV doc pm cdv ct oc : Value} {an od : Option Addr} {osl : Array (Option Value)} {B nw ini : String} {tl : List Value} {fs : List Str}
  {cn q : Str} {N : Addr} {bs : List Value} {sn : List Str} {sub : List Value} {ab : Bool} {col : Option Bool} {dd : Option Addr} {k0 k1 k2 k3 k5 : Option Value}
theorem xc_of (b : BaseF B nw ini tl) (hc : plainF c = true) (hmg : mg c = some (.ref C)) (hns : PySem.W.nsIn K mainGlobals c = some (some (.ref C))) (lc : K.lookup C = some (excClassObj cn q C N bs (.ref aT :: tl) true sn sub ab col dd k0 k1 k2 k3 k5 nw)) (ho : ownB K C fs = true)
    (bb : BaseN K mg bn ini) (hi : PySem.W.findIn K (.ref C) "__init__" = some (some (.ref fI))) (ht : PySem.W.typeIn K (.ref fI) = some (.type "function")) (lk : K.lookup fI = some ⟨oc, od, .func (PySem.W.fnOf nm ql prm body sc dV kV doc pm an cdv ct), osl⟩)
    (hcd : PySem.W.codeIn K cdv ql = true) (S : FnScope ("self" :: fs) ("self" :: fs) sc) (hgl : sc.names.lookup bn = some .globalImplicit) (hb : initB body = some (bn, fs)) (hbd : L2.Binds K (PySem.W.fnOf nm ql prm body sc dV kV doc pm an cdv ct) ("self" :: fs) []) :
    XOk K c fs ∧ XcOk Pr w K mg c fs := by
  unfold ownB at ho
  simp only [Bool.and_eq_true, decide_eq_true_eq, List.all_eq_true] at ho
  obtain ⟨o1, o2, o3, o4, o5, o6⟩ := ho
  have hno : ∀ f ∈ fs, PySem.W.findIn K (.ref C) f = some none := fun f hf => (o6 f hf).1
  have pl : ∀ f ∈ fs, (f == ("__debug__" : Str)) = false ∧ (f == ("__classdict__" : Str)) = false := fun f hf => by
    have := (o6 f hf).2
    unfold plainF at this
    simp only [Bool.and_eq_true, Bool.not_eq_true'] at this
    exact this
  have oc : OwnC K C nw tl := ⟨⟨cn, q, N, bs, [aT], sn, sub, ab, col, dd, k0, k1, k2, k3, k5, lc⟩, o1, o2, o3, o4⟩
  refine ⟨⟨C, hns, askC_of o5, hno⟩, ?_, ?_⟩
  · unfold plainF at hc
    simp only [Bool.and_eq_true, Bool.not_eq_true'] at hc
    exact hc.1
  unfold initB at hb
  split at hb
  · split at hb
    case h_2 => cases hb
    rename_i n0 f h1 h2
    simp only [Option.some.injEq, Prod.mk.injEq] at hb
    obtain ⟨rfl, rfl⟩ := hb
    obtain ⟨txt, n, p1, p2, p3, p4, p5, p6, rfl, hl⟩ := iniS_of h1
    obtain ⟨r1, r2, r3, r4, rfl⟩ := fldS_of h2
    refine ⟨C, B, nw, ini, tl, fI, _, _, fun ws => [f].zip ws, hmg, hns, b, oc, hi, ht, hbd, fun ws hw => ?_, fun bs => init1 b oc bb (hno f (by simp)) lk hcd S hgl hl (pl f (by simp)).1 (pl f (by simp)).2⟩
    match ws, hw with
    | [x], _ => rfl
  · split at hb
    case h_2 => cases hb
    rename_i n0 f g h1 h2 h3
    simp only [Option.some.injEq, Prod.mk.injEq] at hb
    obtain ⟨rfl, rfl⟩ := hb
    obtain ⟨txt, n, p1, p2, p3, p4, p5, p6, rfl, hl⟩ := iniS_of h1
    obtain ⟨r1, r2, r3, r4, rfl⟩ := fldS_of h2
    obtain ⟨t1, t2, t3, t4, rfl⟩ := fldS_of h3
    refine ⟨C, B, nw, ini, tl, fI, _, _, fun ws => ([f, g].zip ws).reverse, hmg, hns, b, oc, hi, ht, hbd, fun ws hw => ?_, fun bs => init2 b oc bb (hno f (by simp)) (hno g (by simp)) lk hcd S hgl hl (pl f (by simp)).1 (pl f (by simp)).2 (pl g (by simp)).1 (pl g (by simp)).2⟩
    match ws, hw with
    | [x, y], _ => rfl
  · cases hb
end
/-- classes beside classes, all at once: names with their values; for each name asked for what it tells -/
def xrB (K : PySem.W.Frag) (cl : List (Str × Addr)) (hv : Value) (ms : List (Str × Bool)) : Bool :=
  ms.all fun p => match cl.lookup p.1 with
    | some C => ownB.askCB K C && (decide (PySem.W.exmOne K (.ref C) hv = some p.2) && decide (PySem.W.kitOne K (.ref C) hv = some p.2))
    | none => false
theorem xr_of {K : PySem.W.Frag} {mg : Str → Option Value} {cl : List (Str × Addr)} {h : Str} {hv : Value} {hw : V} {ms : List (Str × Bool)} (ns : ∀ p ∈ cl, PySem.W.nsIn K mainGlobals p.1 = some (some (.ref p.2))) (hd : plainF h = true)
    (hm : mg h = some hv ∨ (mg h = none ∧ bootBuiltins h = some hv ∧ h ≠ "__name__")) (r1 : L2.RelV hw hv) (r2 : ∀ u, L2.RelV hw u → u = hv) (hb : xrB K cl hv ms = true) : XrOk K mg h ms := by
  unfold plainF at hd
  simp only [Bool.and_eq_true, Bool.not_eq_true'] at hd
  refine ⟨hv, hw, ⟨hd.1, hm⟩, r1, r2, fun c b hc => ?_⟩
  unfold xrB at hb
  rw [List.all_eq_true] at hb
  have := hb _ (mem_of_lookup hc)
  dsimp only at this
  split at this
  · rename_i C hC
    simp only [Bool.and_eq_true, decide_eq_true_eq] at this
    exact ⟨C, ns _ (mem_of_lookup hC), askC_of this.1, this.2.1, this.2.2⟩
  · cases this
theorem ask_of {K : PySem.W.Frag} (h : (decide (PySem.W.specialIn K (.builtin "object.__class__") "__get__" = some (some (.builtin "getset_descriptor.__get__"))) && decide (PySem.W.takesIn K (.builtin "object.__class__") = some true)) = true) : AskB K := by
  simp only [Bool.and_eq_true, decide_eq_true_eq] at h
  exact ⟨h.1, h.2⟩
end TW
namespace TW
open PySem PySem.Spec PyProof.Rows L2
/-! ### steps of the evaluator: only what comes first is reckoned -/
theorem bind_exc {α β : Type} (x : Xn) (st : Sto) (f : α → Sto → R β) : (R.exc x st : R α).bind f = .exc x st := id rfl
theorem bind_stuck {α β : Type} (f : α → Sto → R β) : (R.stuck : R α).bind f = .stuck := id rfl
theorem go_ok {α : Type} (a : α) (st : Sto) (en : En) (f : α → Sto → RS) : (R.ok a st).go en f = f a st := id rfl
theorem go_exc {α : Type} (x : Xn) (st : Sto) (en : En) (f : α → Sto → RS) : (R.exc x st : R α).go en f = .exc x en st := id rfl
theorem seq_nx (en : En) (st : Sto) (f : En → Sto → RS) : (RS.nx en st).seq f = f en st := id rfl
theorem seq_rt (v : Vv) (st : Sto) (f : En → Sto → RS) : (RS.rt v st).seq f = .rt v st := id rfl
theorem seq_exc (x : Xn) (en : En) (st : Sto) (f : En → Sto → RS) : (RS.exc x en st).seq f = .exc x en st := id rfl
theorem turn_nx (en : En) (st : Sto) (f : En → Sto → RS) : (RS.nx en st).turn f = f en st := id rfl
theorem turn_rt (v : Vv) (st : Sto) (f : En → Sto → RS) : (RS.rt v st).turn f = .rt v st := id rfl
theorem turn_exc (x : Xn) (en : En) (st : Sto) (f : En → Sto → RS) : (RS.exc x en st).turn f = .exc x en st := id rfl
theorem calm_ok' {α : Type} (a : α) (st : Sto) : (R.ok a st).calm = .ok a st := id rfl
theorem end_d (n : Nat) (x : D) (st : Sto) : endF n (.rt (.d x) st) = .ok (.d x) (st.take n) := id rfl
theorem end_nx (n : Nat) (en : En) (st : Sto) : endF n (.nx en st) = .ok (.d .non) (st.take n) := id rfl
theorem end_exc (n : Nat) (x : Xn) (en : En) (st : Sto) : endF n (.exc x en st) = .exc x (st.take n) := id rfl
theorem fn_succ (t : Tbl) (k i : Nat) (vs : List Vv) (st : Sto) : Fn t (k + 1) i vs st = match t i with
    | some (n, b) => runF n (evSs (Fn t k) b) vs st
    | none => .stuck := id rfl
theorem tru_bl (b : Bool) (st : Sto) : truV (.d (.bl b)) st = .ok b st := id rfl
theorem for_nil (g : D → En → Sto → R En) (b : En → Sto → RS) (en : En) (st : Sto) : forLoop [] g b [] en st = .nx en st := id rfl
def kTurn (ps : List (Nat × List D)) (g : D → En → Sto → R En) (b : En → Sto → RS) (xs : List D) (en : En) (st : Sto) : RS := forLoop ps g b xs en st
def kBody (ps : List (Nat × List D)) (g : D → En → Sto → R En) (b : En → Sto → RS) (xs : List D) (en : En) (st : Sto) : RS := (b en st).turn fun en st => forLoop ps g b xs en st
theorem for_cons (g : D → En → Sto → R En) (b : En → Sto → RS) (x : D) (xs : List D) (en : En) (st : Sto) : forLoop [] g b (x :: xs) en st = (g x en st).calm.go en (kBody [] g b xs) := id rfl
theorem k_turn (ps : List (Nat × List D)) (g : D → En → Sto → R En) (b : En → Sto → RS) (xs : List D) (en : En) (st : Sto) : kTurn ps g b xs en st = forLoop ps g b xs en st := id rfl
theorem k_body (ps : List (Nat × List D)) (g : D → En → Sto → R En) (b : En → Sto → RS) (xs : List D) (en : En) (st : Sto) : kBody ps g b xs en st = (b en st).turn (kTurn ps g b xs) := id rfl
theorem for_nilp {ps : List (Nat × List D)} {st : Sto} (h : pinOk ps st = true) (g : D → En → Sto → R En) (b : En → Sto → RS) (en : En) : forLoop ps g b [] en st = .nx en st := by simp only [forLoop, h, if_true]
theorem for_consp {ps : List (Nat × List D)} {st : Sto} (h : pinOk ps st = true) (g : D → En → Sto → R En) (b : En → Sto → RS) (x : D) (xs : List D) (en : En) : forLoop ps g b (x :: xs) en st = (g x en st).calm.go en (kBody ps g b xs) := by (simp only [forLoop, h, if_true]) <;> rfl
theorem lc_nil (ps : List (Nat × List D)) (g : D → En → Sto → R En) (t : En → Sto → R Bool) (e : En → Sto → R Vv) (en : En) (acc : List D) (st : Sto) (h : pinOk ps st = true) : lcLoop ps g t e en [] acc st = .ok (.d (.lst acc)) st := by simp only [lcLoop, h, if_true]
theorem lc_cons (ps : List (Nat × List D)) (g : D → En → Sto → R En) (t : En → Sto → R Bool) (e : En → Sto → R Vv) (en : En) (x : D) (xs acc : List D) (st : Sto) (h : pinOk ps st = true) : lcLoop ps g t e en (x :: xs) acc st = (g x en st).bind fun en2 st => (t en2 st).bind fun k st =>
      if k then (e en2 st).bind fun y st => (match y with | .d z => lcLoop ps g t e en xs (acc ++ [z]) st | _ => .stuck) else lcLoop ps g t e en xs acc st := by (simp only [lcLoop, h, if_true]) <;> rfl
/-- a comprehension whose element is a plain function of the item, nothing left out -/
theorem lc_map {ps : List (Nat × List D)} {g : D → En → Sto → R En} {t : En → Sto → R Bool} {e : En → Sto → R Vv} {en : En} {f : D → D} {st : Sto} (hp : pinOk ps st = true) : ∀ (xs acc : List D), (∀ x ∈ xs, ∃ en2, g x en st = .ok en2 st ∧ t en2 st = .ok true st ∧ e en2 st = .ok (.d (f x)) st) → lcLoop ps g t e en xs acc st = .ok (.d (.lst (acc ++ xs.map f))) st
  | [], acc, _ => by simp [lc_nil, hp]
  | x :: xs, acc, h => by
    obtain ⟨en2, h1, h2, h3⟩ := h x (by simp)
    rw [lc_cons _ _ _ _ _ _ _ _ _ hp, h1, bind_ok, h2, bind_ok, if_pos rfl, h3, bind_ok]
    show lcLoop ps g t e en xs (acc ++ [f x]) st = _
    rw [lc_map hp xs (acc ++ [f x]) fun y hy => h y (List.mem_cons_of_mem _ hy)]
    simp
theorem c_eq_ii (i j : Int) : cmpD .Eq (.int i) (.int j) = some (decide (i = j)) := by
  simp only [cmpD, eqO, dep, eqD, Nat.zero_le, and_self, if_true]
  first | rfl | (congr 1; rw [Bool.eq_iff_iff]; simp)
theorem c_ne_ii (i j : Int) : cmpD .NotEq (.int i) (.int j) = some (!decide (i = j)) := by
  have := c_eq_ii i j
  simp only [cmpD] at this ⊢
  have e : eqO1 (.int i) (.int j) = eqO (.int i) (.int j) := rfl
  rw [e, this]
  rfl
theorem c_lt_ii (i j : Int) : cmpD .Lt (.int i) (.int j) = some (decide (i < j)) := id rfl
theorem c_le_ii (i j : Int) : cmpD .LtE (.int i) (.int j) = some (decide (i ≤ j)) := id rfl
theorem c_gt_ii (i j : Int) : cmpD .Gt (.int i) (.int j) = some (decide (j < i)) := id rfl
theorem c_ge_ii (i j : Int) : cmpD .GtE (.int i) (.int j) = some (decide (j ≤ i)) := id rfl
theorem c_is_non (d : D) : cmpD .Is d .non = some (noneD d) := id rfl
theorem c_isn_non (d : D) : cmpD .IsNot d .non = some (!noneD d) := id rfl
theorem is_int_non  : isiD "int" .non = .bl false := congrArg D.bl (show isiN "NoneType" "int" = false by decide)
theorem is_int_bl (b : Bool) : isiD "int" (.bl b) = .bl true := congrArg D.bl (show isiN "bool" "int" = true by decide)
theorem is_int_int (i : Int) : isiD "int" (.int i) = .bl true := congrArg D.bl (show isiN "int" "int" = true by decide)
theorem is_int_str (s : Str) : isiD "int" (.str s) = .bl false := congrArg D.bl (show isiN "str" "int" = false by decide)
theorem is_int_tup (xs : List D) : isiD "int" (.tup xs) = .bl false := congrArg D.bl (show isiN "tuple" "int" = false by decide)
theorem is_int_lst (xs : List D) : isiD "int" (.lst xs) = .bl false := congrArg D.bl (show isiN "list" "int" = false by decide)
theorem is_int_dct (ks : List Key) (xs : List D) : isiD "int" (.dct ks xs) = .bl false := congrArg D.bl (show isiN "dict" "int" = false by decide)
theorem is_str_non  : isiD "str" .non = .bl false := congrArg D.bl (show isiN "NoneType" "str" = false by decide)
theorem is_str_bl (b : Bool) : isiD "str" (.bl b) = .bl false := congrArg D.bl (show isiN "bool" "str" = false by decide)
theorem is_str_int (i : Int) : isiD "str" (.int i) = .bl false := congrArg D.bl (show isiN "int" "str" = false by decide)
theorem is_str_str (s : Str) : isiD "str" (.str s) = .bl true := congrArg D.bl (show isiN "str" "str" = true by decide)
theorem is_str_tup (xs : List D) : isiD "str" (.tup xs) = .bl false := congrArg D.bl (show isiN "tuple" "str" = false by decide)
theorem is_str_lst (xs : List D) : isiD "str" (.lst xs) = .bl false := congrArg D.bl (show isiN "list" "str" = false by decide)
theorem is_str_dct (ks : List Key) (xs : List D) : isiD "str" (.dct ks xs) = .bl false := congrArg D.bl (show isiN "dict" "str" = false by decide)
theorem is_bool_non  : isiD "bool" .non = .bl false := congrArg D.bl (show isiN "NoneType" "bool" = false by decide)
theorem is_bool_bl (b : Bool) : isiD "bool" (.bl b) = .bl true := congrArg D.bl (show isiN "bool" "bool" = true by decide)
theorem is_bool_int (i : Int) : isiD "bool" (.int i) = .bl false := congrArg D.bl (show isiN "int" "bool" = false by decide)
theorem is_bool_str (s : Str) : isiD "bool" (.str s) = .bl false := congrArg D.bl (show isiN "str" "bool" = false by decide)
theorem is_bool_tup (xs : List D) : isiD "bool" (.tup xs) = .bl false := congrArg D.bl (show isiN "tuple" "bool" = false by decide)
theorem is_bool_lst (xs : List D) : isiD "bool" (.lst xs) = .bl false := congrArg D.bl (show isiN "list" "bool" = false by decide)
theorem is_bool_dct (ks : List Key) (xs : List D) : isiD "bool" (.dct ks xs) = .bl false := congrArg D.bl (show isiN "dict" "bool" = false by decide)
theorem is_tuple_non  : isiD "tuple" .non = .bl false := congrArg D.bl (show isiN "NoneType" "tuple" = false by decide)
theorem is_tuple_bl (b : Bool) : isiD "tuple" (.bl b) = .bl false := congrArg D.bl (show isiN "bool" "tuple" = false by decide)
theorem is_tuple_int (i : Int) : isiD "tuple" (.int i) = .bl false := congrArg D.bl (show isiN "int" "tuple" = false by decide)
theorem is_tuple_str (s : Str) : isiD "tuple" (.str s) = .bl false := congrArg D.bl (show isiN "str" "tuple" = false by decide)
theorem is_tuple_tup (xs : List D) : isiD "tuple" (.tup xs) = .bl true := congrArg D.bl (show isiN "tuple" "tuple" = true by decide)
theorem is_tuple_lst (xs : List D) : isiD "tuple" (.lst xs) = .bl false := congrArg D.bl (show isiN "list" "tuple" = false by decide)
theorem is_tuple_dct (ks : List Key) (xs : List D) : isiD "tuple" (.dct ks xs) = .bl false := congrArg D.bl (show isiN "dict" "tuple" = false by decide)
theorem is_list_non  : isiD "list" .non = .bl false := congrArg D.bl (show isiN "NoneType" "list" = false by decide)
theorem is_list_bl (b : Bool) : isiD "list" (.bl b) = .bl false := congrArg D.bl (show isiN "bool" "list" = false by decide)
theorem is_list_int (i : Int) : isiD "list" (.int i) = .bl false := congrArg D.bl (show isiN "int" "list" = false by decide)
theorem is_list_str (s : Str) : isiD "list" (.str s) = .bl false := congrArg D.bl (show isiN "str" "list" = false by decide)
theorem is_list_tup (xs : List D) : isiD "list" (.tup xs) = .bl false := congrArg D.bl (show isiN "tuple" "list" = false by decide)
theorem is_list_lst (xs : List D) : isiD "list" (.lst xs) = .bl true := congrArg D.bl (show isiN "list" "list" = true by decide)
theorem is_list_dct (ks : List Key) (xs : List D) : isiD "list" (.dct ks xs) = .bl false := congrArg D.bl (show isiN "dict" "list" = false by decide)
theorem is_dict_non  : isiD "dict" .non = .bl false := congrArg D.bl (show isiN "NoneType" "dict" = false by decide)
theorem is_dict_bl (b : Bool) : isiD "dict" (.bl b) = .bl false := congrArg D.bl (show isiN "bool" "dict" = false by decide)
theorem is_dict_int (i : Int) : isiD "dict" (.int i) = .bl false := congrArg D.bl (show isiN "int" "dict" = false by decide)
theorem is_dict_str (s : Str) : isiD "dict" (.str s) = .bl false := congrArg D.bl (show isiN "str" "dict" = false by decide)
theorem is_dict_tup (xs : List D) : isiD "dict" (.tup xs) = .bl false := congrArg D.bl (show isiN "tuple" "dict" = false by decide)
theorem is_dict_lst (xs : List D) : isiD "dict" (.lst xs) = .bl false := congrArg D.bl (show isiN "list" "dict" = false by decide)
theorem is_dict_dct (ks : List Key) (xs : List D) : isiD "dict" (.dct ks xs) = .bl true := congrArg D.bl (show isiN "dict" "dict" = true by decide)
theorem len_s (s : Str) : lenD [.str s] = some (.int s.length) := id rfl
theorem len_l (xs : List D) : lenD [.lst xs] = some (.int xs.length) := id rfl
theorem len_t (xs : List D) : lenD [.tup xs] = some (.int xs.length) := id rfl
/-! ### the evaluator's equations, with what comes behind by a name -/
section
variable (F : Fs)
def kBin1 (op : Operator) (b : E) (en : En) (x : Vv) (st : Sto) : R Vv := (evE F b en st).bind fun y st => op2 (binD op) x y st
def kBin2 (op : Operator) (x y : Vv) (st : Sto) : R Vv := op2 (binD op) x y st
theorem e_var (i en st) : evE F (.var i) en st = (match en[i]? with | some (some v) => .ok v st | _ => .stuck) := id rfl
theorem e_con (d en st) : evE F (.con d) en st = .ok (.d d) st := id rfl
theorem e_bin (op a b en st) : evE F (.bin op a b) en st = (evE F a en st).bind (kBin1 F op b en) := id rfl
theorem k_bin1 (op b en x st) : kBin1 F op b en x st = (evE F b en st).bind (kBin2 op x) := id rfl
theorem k_bin2 (op) (x y : D) (st) : kBin2 op (.d x) (.d y) st = give (binD op x y) st := id rfl
theorem k_bin2r (op) (n : Nat) (y : D) (st : Sto) : kBin2 op (.ref n) (.d y) st = match st[n]? with | some (.lst xs) => give (binD op (.lst xs) y) st | _ => .stuck := by
  unfold kBin2 op2
  simp only [der]
  cases st[n]? with
  | none => rfl
  | some o => cases o <;> rfl
def kNeg (x : Vv) (st : Sto) : R Vv := match x with | .d (.int i) => .ok (.d (.int (-i))) st | _ => .stuck
theorem e_neg (a en st) : evE F (.neg a) en st = (evE F a en st).bind kNeg := id rfl
theorem k_neg (i st) : kNeg (.d (.int i)) st = .ok (.d (.int (-i))) st := id rfl
def kNot (x : Vv) (st : Sto) : R Vv := (truV x st).bind fun k st => .ok (.d (.bl (!k))) st
theorem e_not (a en st) : evE F (.not a) en st = (evE F a en st).bind kNot := id rfl
theorem k_not (b st) : kNot (.d (.bl b)) st = .ok (.d (.bl (!b))) st := id rfl
def kAnd (b : E) (en : En) (x : Vv) (st : Sto) : R Vv := (truV x st).bind fun k st => if k then evE F b en st else .ok x st
theorem e_and (a b en st) : evE F (.and a b) en st = (evE F a en st).bind (kAnd F b en) := id rfl
theorem k_and (b en) (x : Bool) (st) : kAnd F b en (.d (.bl x)) st = if x = true then evE F b en st else .ok (.d (.bl x)) st := id rfl
def kOr (b : E) (en : En) (x : Vv) (st : Sto) : R Vv := (truV x st).bind fun k st => if k then .ok x st else evE F b en st
theorem e_or (a b en st) : evE F (.or a b) en st = (evE F a en st).bind (kOr F b en) := id rfl
theorem k_or (b en) (x : Bool) (st) : kOr F b en (.d (.bl x)) st = if x = true then .ok (.d (.bl x)) st else evE F b en st := id rfl
theorem k_orI (b en) (x : Int) (st) : kOr F b en (.d (.int x)) st = if (x != 0) = true then .ok (.d (.int x)) st else evE F b en st := id rfl
def kCmp1 (op : CmpOp) (b : E) (en : En) (x : Vv) (st : Sto) : R Vv := (evE F b en st).bind fun y st => cmpV op x y st
def kCmp2 (op : CmpOp) (x y : Vv) (st : Sto) : R Vv := cmpV op x y st
theorem e_cmp (op a b en st) : evE F (.cmp op a b) en st = (evE F a en st).bind (kCmp1 F op b en) := id rfl
theorem k_cmp1 (op b en x st) : kCmp1 F op b en x st = (evE F b en st).bind (kCmp2 op x) := id rfl
def giveB (o : Option Bool) (st : Sto) : R Vv := match o with | some k => .ok (.d (.bl k)) st | none => .stuck
theorem give_b (k st) : giveB (some k) st = .ok (.d (.bl k)) st := id rfl
theorem k_cmp2 (op) (x y : D) (st) : kCmp2 op (.d x) (.d y) st = giveB (cmpD op x y) st := by
  unfold kCmp2 cmpV op2 giveB
  simp only [der]
  cases cmpD op x y <;> rfl
def kCh1 (p q : CmpOp) (b c : E) (en : En) (x : Vv) (st : Sto) : R Vv := (evE F b en st).bind fun y st => (cmpV p x y st).bind fun k st =>
      match k with
      | .d (.bl true) => (evE F c en st).bind fun z st => cmpV q y z st
      | .d (.bl false) => .ok (.d (.bl false)) st
      | _ => .stuck
def kCh2 (p q : CmpOp) (c : E) (en : En) (x y : Vv) (st : Sto) : R Vv := (cmpV p x y st).bind fun k st =>
      match k with
      | .d (.bl true) => (evE F c en st).bind fun z st => cmpV q y z st
      | .d (.bl false) => .ok (.d (.bl false)) st
      | _ => .stuck
theorem e_chain (p q a b c en st) : evE F (.chain p q a b c) en st = (evE F a en st).bind (kCh1 F p q b c en) := id rfl
theorem k_ch1 (p q b c en x st) : kCh1 F p q b c en x st = (evE F b en st).bind (kCh2 F p q c en x) := id rfl
theorem k_ch2 (p q c en) (x y : D) (st) : kCh2 F p q c en (.d x) (.d y) st = match cmpD p x y with
    | some k => if k = true then (evE F c en st).bind (kCmp2 q (.d y)) else .ok (.d (.bl false)) st
    | none => .stuck := by
  unfold kCh2 cmpV op2 der
  cases h : cmpD p x y with
  | none => simp only [h]; rfl
  | some k => simp only [h]; cases k <;> rfl
def kIte (a b : E) (en : En) (x : Vv) (st : Sto) : R Vv := (truV x st).bind fun k st => if k then evE F a en st else evE F b en st
theorem e_ite (c a b en st) : evE F (.ite c a b) en st = (evE F c en st).bind (kIte F a b en) := id rfl
theorem k_ite (a b en) (x : Bool) (st) : kIte F a b en (.d (.bl x)) st = if x = true then evE F a en st else evE F b en st := id rfl
def kCall1 (f : Nat) (ks : Es) (ord : List (Nat ⊕ D)) (en : En) (vs : List Vv) (st : Sto) : R Vv := (evEs F ks en st).bind fun ws st => match arrD ord (vs ++ ws) with | some xs => F f xs st | none => .stuck
def kCall2 (f : Nat) (ord : List (Nat ⊕ D)) (vs ws : List Vv) (st : Sto) : R Vv := match arrD ord (vs ++ ws) with | some xs => F f xs st | none => .stuck
theorem e_call (f as ks ord en st) : evE F (.call f as ks ord) en st = (evEs F as en st).bind (kCall1 F f ks ord en) := id rfl
theorem k_call1 (f ks ord en vs st) : kCall1 F f ks ord en vs st = (evEs F ks en st).bind (kCall2 F f ord vs) := id rfl
theorem k_call2 (f ord vs ws st) : kCall2 F f ord vs ws st = match arrD ord (vs ++ ws) with | some xs => F f xs st | none => .stuck := id rfl
def kBlt (f : Bf) (vs : List Vv) (st : Sto) : R Vv := opn (bfD f) vs st
def kIsi (t : String) (x : Vv) (st : Sto) : R Vv := op1 (fun d => some (isiD t d)) x st
theorem e_isi (a t en st) : evE F (.isi a t) en st = (evE F a en st).bind (kIsi t) := id rfl
theorem k_isi (t) (d : D) (st) : kIsi t (.d d) st = .ok (.d (isiD t d)) st := id rfl
def kRev (x : Vv) (st : Sto) : R Vv := op1 revD x st
theorem e_rev (a en st) : evE F (.rev a) en st = (evE F a en st).bind kRev := id rfl
theorem k_rev (d : D) (st) : kRev (.d d) st = give (revD d) st := id rfl
def kSrtc (elt : E) (tg : Tg) (ifs : Es) (own : List Nat) (en : En) (w : Wl) (st : Sto) : R Vv := ((scLoop w.pins (fun x en st => evG F tg (.d x) en st) (fun en st => evT F ifs en st) (fun en st => evE F elt en st) (wipeE en own) w.xs [] st).calm).bind fun L st => .ok (.d (.lst ((sortS L).map D.str))) st
def kSrt2 (L : List Str) (st : Sto) : R Vv := .ok (.d (.lst ((sortS L).map D.str))) st
theorem e_srtc (elt tg it ifs own en st) : evE F (.srtc elt tg it ifs own) en st = (evI F it en st).bind (kSrtc F elt tg ifs own en) := id rfl
theorem k_srt2 (L st) : kSrt2 L st = .ok (.d (.lst ((sortS L).map D.str))) st := id rfl
theorem e_dnewT (en st) : evE F (.dnew true) en st = .ok (.ref st.length) (st ++ [.dT false []]) := id rfl
theorem e_dnewK (en st) : evE F (.dnew false) en st = .ok (.ref st.length) (st ++ [.dK false []]) := id rfl
def kDg1 (k : E) (en : En) (x : Vv) (st : Sto) : R Vv := (evE F k en st).bind fun y st => kDget x y st
theorem e_dget (o k en st) : evE F (.dget o k) en st = (evE F o en st).bind (kDg1 F k en) := id rfl
theorem k_dg1 (k en x st) : kDg1 F k en x st = (evE F k en st).bind (kDget x) := id rfl
theorem e_dkeys (srt o en st) : evE F (.dkeys srt o) en st = (evE F o en st).bind (kDkeys srt) := id rfl
theorem e_lock (i e en st) : evE F (.lock i e) en st = lockE i (evE F e) en st := id rfl
theorem i_keys (i en st) : evI F (.keys i) en st = kKeys en[i]? st := id rfl
def kSetl (srt : Bool) (x : Vv) (st : Sto) : R Vv := op1 (setlD srt) x st
theorem e_setl (srt a en st) : evE F (.setl srt a) en st = (evE F a en st).bind (kSetl srt) := id rfl
theorem k_setl (srt) (d : D) (st) : kSetl srt (.d d) st = give (setlD srt d) st := id rfl
theorem e_tin (neg t a en st) : evE F (.tin neg t a) en st = (evE F a en st).bind (kTin neg t) := id rfl
theorem k_tinP (t) (z : Str) (st) : kTin false t (.d (.str z)) st = .ok (.d (.bl (t.lookup z).isSome)) st := id rfl
theorem k_tinN (t) (z : Str) (st) : kTin true t (.d (.str z)) st = .ok (.d (.bl (!(t.lookup z).isSome))) st := id rfl
theorem e_tget (t a en st) : evE F (.tget t a) en st = (evE F a en st).bind (kTget t) := id rfl
theorem k_tget (t) (z : Str) (st) : kTget t (.d (.str z)) st = give (t.lookup z) st := id rfl
theorem e_blt (f as en st) : evE F (.blt f as) en st = (evEs F as en st).bind (kBlt f) := id rfl
theorem k_blt (f vs st) : kBlt f vs st = match ders st vs with | some as => give (bfD f as) st | none => .stuck := id rfl
def kMeth1 (m : Mf) (as : Es) (en : En) (x : Vv) (st : Sto) : R Vv := if recv m x st then (evEs F as en st).bind fun vs st => doM m x vs st else .stuck
def kMeth2 (m : Mf) (x : Vv) (vs : List Vv) (st : Sto) : R Vv := doM m x vs st
theorem e_meth (m o as en st) : evE F (.meth m o as) en st = (evE F o en st).bind (kMeth1 F m as en) := id rfl
theorem k_meth1 (m as en x st) : kMeth1 F m as en x st = if recv m x st = true then (evEs F as en st).bind (kMeth2 m x) else .stuck := id rfl
theorem k_meth2 (m x vs st) : kMeth2 m x vs st = doM m x vs st := id rfl
def kTup (vs : List Vv) (st : Sto) : R Vv := match pures vs with | some xs => if xs.length ≤ sizeLine then .ok (.d (.tup xs)) st else .stuck | none => .stuck
def kLst (vs : List Vv) (st : Sto) : R Vv := match pures vs with | some xs => if xs.length ≤ sizeLine then .ok (.d (.lst xs)) st else .stuck | none => .stuck
theorem e_tup (as en st) : evE F (.tup as) en st = (evEs F as en st).bind kTup := id rfl
theorem e_lst (as en st) : evE F (.lst as) en st = (evEs F as en st).bind kLst := id rfl
theorem k_tup (xs : List D) (vs st) (h : pures vs = some xs) (l : xs.length ≤ sizeLine) : kTup vs st = .ok (.d (.tup xs)) st := by unfold kTup; simp only [h, if_pos l]
theorem k_lst (xs : List D) (vs st) (h : pures vs = some xs) (l : xs.length ≤ sizeLine) : kLst vs st = .ok (.d (.lst xs)) st := by unfold kLst; simp only [h, if_pos l]
theorem e_dcd (as en st) : evE F (.dcd as) en st = (evEs F as en st).calm.bind kDcd := id rfl
theorem e_dct0 (en st) : evE F .dct0 en st = .ok (.d (.dct [] [])) st := id rfl
def kIdx1 (b : E) (en : En) (x : Vv) (st : Sto) : R Vv := (evE F b en st).bind fun y st => op2 idxD x y st
def kIdx2 (x y : Vv) (st : Sto) : R Vv := op2 idxD x y st
theorem e_idx (a b en st) : evE F (.idx a b) en st = (evE F a en st).bind (kIdx1 F b en) := id rfl
theorem k_idx1 (b en x st) : kIdx1 F b en x st = (evE F b en st).bind (kIdx2 x) := id rfl
theorem k_idx2 (x y : D) (st) : kIdx2 (.d x) (.d y) st = give (idxD x y) st := id rfl
theorem k_idx2r (n : Nat) (xs : List D) (y : D) (st : Sto) (h : st[n]? = some (.lst xs)) : kIdx2 (.ref n) (.d y) st = give (idxD (.lst xs) y) st := by
  unfold kIdx2 op2 der
  simp only [h]
def kSlc1 (lo hi : Eo) (en : En) (x : Vv) (st : Sto) : R Vv := (evO F lo en st).bind fun l st => (evO F hi en st).bind fun h st => op1 (fun d => slcD d l h) x st
def kSlc2 (hi : Eo) (en : En) (x : Vv) (l : Option Int) (st : Sto) : R Vv := (evO F hi en st).bind fun h st => op1 (fun d => slcD d l h) x st
def kSlc3 (x : Vv) (l h : Option Int) (st : Sto) : R Vv := op1 (fun d => slcD d l h) x st
theorem e_slc (a lo hi en st) : evE F (.slc a lo hi) en st = (evE F a en st).bind (kSlc1 F lo hi en) := id rfl
theorem k_slc1 (lo hi en x st) : kSlc1 F lo hi en x st = (evO F lo en st).bind (kSlc2 F hi en x) := id rfl
theorem k_slc2 (hi en x l st) : kSlc2 F hi en x l st = (evO F hi en st).bind (kSlc3 x l) := id rfl
theorem k_slc3 (x : D) (l h st) : kSlc3 (.d x) l h st = give (slcD x l h) st := id rfl
def kO (x : Vv) (st : Sto) : R (Option Int) := match x with | .d (.int i) => .ok (some i) st | _ => .stuck
theorem o_none (en st) : evO F .none en st = .ok none st := id rfl
theorem o_some (a en st) : evO F (.some a) en st = (evE F a en st).bind kO := id rfl
theorem k_o (i st) : kO (.d (.int i)) st = .ok (some i) st := id rfl
theorem e_new (a en st) : evE F (.new a) en st = (evE F a en st).bind newV := id rfl
theorem k_new (xs st) : newV (.d (.lst xs)) st = .ok (.ref st.length) (st ++ [.lst xs]) := id rfl
def lcG (tg : Tg) (x : D) (en : En) (st : Sto) : R En := evG F tg (.d x) en st
def kLc (elt : E) (tg : Tg) (ifs : Es) (own : List Nat) (en : En) (w : Wl) (st : Sto) : R Vv := if w.xs.length ≤ sizeLine then (lcLoop w.pins (lcG F tg) (evT F ifs) (evE F elt) (wipeE en own) w.xs [] st).calm else .stuck
theorem e_lc (elt tg it ifs own en st) : evE F (.lc elt tg it ifs own) en st = (evI F it en st).bind (kLc F elt tg ifs own en) := id rfl
theorem k_lc (elt tg ifs own en xs ps st) : kLc F elt tg ifs own en ⟨xs, ps⟩ st = if xs.length ≤ sizeLine then (lcLoop ps (lcG F tg) (evT F ifs) (evE F elt) (wipeE en own) xs [] st).calm else .stuck := id rfl
theorem lc_g (tg x en st) : lcG F tg x en st = evG F tg (.d x) en st := id rfl
def kEs1 (r : Es) (en : En) (x : Vv) (st : Sto) : R (List Vv) := (evEs F r en st).bind fun xs st => .ok (x :: xs) st
def kEs2 (x : Vv) (xs : List Vv) (st : Sto) : R (List Vv) := .ok (x :: xs) st
theorem es_nil (en st) : evEs F .nil en st = .ok [] st := id rfl
theorem es_cons (a r en st) : evEs F (.cons a r) en st = (evE F a en st).bind (kEs1 F r en) := id rfl
theorem k_es1 (r en x st) : kEs1 F r en x st = (evEs F r en st).bind (kEs2 x) := id rfl
theorem k_es2 (x xs st) : kEs2 x xs st = .ok (x :: xs) st := id rfl
def kT (r : Es) (en : En) (x : Vv) (st : Sto) : R Bool := (truV x st).bind fun k st => if k then evT F r en st else .ok false st
theorem t_nil (en st) : evT F .nil en st = .ok true st := id rfl
theorem t_cons (a r en st) : evT F (.cons a r) en st = (evE F a en st).bind (kT F r en) := id rfl
theorem k_t (r en) (x : Bool) (st) : kT F r en (.d (.bl x)) st = if x = true then evT F r en st else .ok false st := id rfl
theorem i_val (a en st) : evI F (.val a) en st = (evE F a en st).bind kIv := id rfl
theorem i_range (a en st) : evI F (.range1 a) en st = (evE F a en st).bind kIr := id rfl
theorem i_enum (a en st) : evI F (.enum a) en st = (evE F a en st).bind kEn := id rfl
theorem i_zip (q as en st) : evI F (.zip q as) en st = (evEs F as en st).bind (kZip q) := id rfl
theorem k_zip (q) (x y : Vv) (xs ys ps rs) (st) (h1 : rowT x st = some (xs, ps)) (h2 : rowT y st = some (ys, rs)) (hl : q = true → xs.length = ys.length) : kZip q [x, y] st = .ok ⟨zipD xs ys, ps ++ rs⟩ st := by
  unfold kZip
  simp only [h1, h2]
  rw [if_pos hl]
theorem k_iv (d : D) (xs st) (h : itemsD d = some xs) : kIv (.d d) st = .ok ⟨xs, []⟩ st := by unfold kIv; simp only [h]
theorem k_ivl (xs : List D) (st) : kIv (.d (.lst xs)) st = .ok ⟨xs, []⟩ st := id rfl
theorem k_ivt (xs : List D) (st) : kIv (.d (.tup xs)) st = .ok ⟨xs, []⟩ st := id rfl
theorem k_ivs (s : Str) (st) : kIv (.d (.str s)) st = .ok ⟨s.cps.toList.map fun c => .str ⟨#[c]⟩, []⟩ st := id rfl
theorem k_ivr (n : Nat) (xs : List D) (st : Sto) (h : st[n]? = some (.lst xs)) : kIv (.ref n) st = .ok ⟨xs, [(n, xs)]⟩ st := by unfold kIv; simp only [h]
theorem k_ir (n : Int) (st) (h : -(2 ^ 62) ≤ n ∧ n < 2 ^ 62) : kIr (.d (.int n)) st = .ok ⟨(List.range n.toNat).map fun (i : Nat) => D.int i, []⟩ st := by unfold kIr; simp only [if_pos h]
theorem k_ent (xs : List D) (st) : kEn (.d (.tup xs)) st = .ok ⟨enumD 0 xs, []⟩ st := id rfl
theorem k_enl (xs : List D) (st) : kEn (.d (.lst xs)) st = .ok ⟨enumD 0 xs, []⟩ st := id rfl
theorem pin_nil (st) : pinOk [] st = true := id rfl
theorem pin_one (n : Nat) (xs : List D) (st : Sto) (h : st[n]? = some (.lst xs)) : pinOk [(n, xs)] st = true := by
  simp only [pinOk, List.all_cons, List.all_nil, h, sameDs_refl, Bool.and_self]
theorem g_name (i v en st) : evG F (.name i) v en st = .ok (en.set i (some v)) st := id rfl
theorem g_star (is j nw v en st) : evG F (.star is j nw) v en st = starV is j nw v en st := id rfl
theorem g_tup (ts) (xs : List D) (en st) : evG F (.tup ts) (.d (.tup xs)) en st = evGs F ts xs en st := id rfl
def kSub1 (i : E) (v : Vv) (en : En) (x : Vv) (st : Sto) : R En := (evE F i en st).bind fun y st => (putV x y v st).bind fun _ st => .ok en st
def kSub2 (v : Vv) (en : En) (x y : Vv) (st : Sto) : R En := (putV x y v st).bind fun _ st => .ok en st
theorem g_sub (o i v en st) : evG F (.sub o i) v en st = (evE F o en st).bind (kSub1 F i v en) := id rfl
theorem k_sub1 (i v en x st) : kSub1 F i v en x st = (evE F i en st).bind (kSub2 v en x) := id rfl
theorem k_sub2 (n : Nat) (k : Int) (v : D) (en) (st : Sto) (xs : List D) (j : Nat) (h : st[n]? = some (.lst xs)) (hj : ixN xs.length k = some j) : kSub2 (.d v) en (.ref n) (.d (.int k)) st = .ok en (st.set n (.lst (xs.set j v))) := by
  unfold kSub2 putV
  simp only [h, hj]
  rfl
def kGs (r : Tgs) (xs : List D) (en : En) (st : Sto) : R En := evGs F r xs en st
theorem gs_nil (en st) : evGs F .nil [] en st = .ok en st := id rfl
theorem gs_cons (t r x xs en st) : evGs F (.cons t r) (x :: xs) en st = (evG F t (.d x) en st).bind (kGs F r xs) := id rfl
theorem k_gs (r xs en st) : kGs F r xs en st = evGs F r xs en st := id rfl
/-! statements -/
def kAsg1 (t : Tg) (en : En) (v : Vv) (st : Sto) : RS := (evG F t v en st).calm.go en fun en st => .nx en st
theorem s_asg (t e en st) : evS F (.asg t e) en st = (evE F e en st).go en (kAsg1 F t en) := id rfl
def kNx (en : En) (st : Sto) : RS := .nx en st
theorem k_asg1 (t en v st) : kAsg1 F t en v st = (evG F t v en st).calm.go en kNx := id rfl
theorem k_nx (en st) : kNx en st = .nx en st := id rfl
def kExpr (en : En) (v : Vv) (st : Sto) : RS := .nx en st
theorem s_expr (e en st) : evS F (.expr e) en st = (evE F e en st).go en (kExpr en) := id rfl
theorem k_expr (en v st) : kExpr en v st = .nx en st := id rfl
def kRet (v : Vv) (st : Sto) : RS := .rt v st
theorem s_ret (e en st) : evS F (.ret e) en st = (evE F e en st).go en kRet := id rfl
theorem k_ret (v st) : kRet v st = .rt v st := id rfl
def kIf (a b : Ss) (en : En) (k : Bool) (st : Sto) : RS := if k then evSs F a en st else evSs F b en st
theorem s_iff (c a b en st) : evS F (.iff c a b) en st = ((evE F c en st).bind truV).go en (kIf F a b en) := id rfl
theorem k_if (a b en k st) : kIf F a b en k st = if k = true then evSs F a en st else evSs F b en st := id rfl
def kFor (t : Tg) (b : Ss) (en : En) (w : Wl) (st : Sto) : RS := forLoop w.pins (lcG F t) (evSs F b) w.xs en st
theorem s_for (t it b en st) : evS F (.for_ t it b) en st = (evI F it en st).go en (kFor F t b en) := id rfl
theorem k_for (t b en xs ps st) : kFor F t b en ⟨xs, ps⟩ st = forLoop ps (lcG F t) (evSs F b) xs en st := id rfl
def kAug1 (i : Nat) (op : Operator) (x : Vv) (en : En) (y : Vv) (st : Sto) : RS := (op2 (augD op) x y st).go en fun z st => .nx (en.set i (some z)) st
theorem s_aug (i op e en st) : evS F (.aug i op e) en st = (match en[i]? with | some (some x) => (evE F e en st).go en (kAug1 i op x en) | _ => .stuck) := id rfl
theorem s_pass (en st) : evS F .pass en st = .nx en st := id rfl
def whC (c : E) (en : En) (st : Sto) : R Bool := (evE F c en st).bind truV
theorem wh_c (c en st) : whC F c en st = (evE F c en st).bind truV := id rfl
theorem s_while (c b en st) : evS F (.while_ c b) en st = whLoop (whC F c) (evSs F b) WF en st := id rfl
def kPar (is : List Nat) (en : En) (vs : List Vv) (st : Sto) : RS := match setAll is vs en with | some en => .nx en st | none => .stuck
theorem s_par (is as en st) : evS F (.par is as) en st = (evEs F as en st).go en (kPar is en) := id rfl
theorem k_par (is en vs st) : kPar is en vs st = match setAll is vs en with | some en => .nx en st | none => .stuck := id rfl
def kSs (r : Ss) (en : En) (st : Sto) : RS := evSs F r en st
theorem ss_nil (en st) : evSs F .nil en st = .nx en st := id rfl
theorem ss_cons (s r en st) : evSs F (.cons s r) en st = (evS F s en st).seq (kSs F r) := id rfl
theorem k_ss (r en st) : kSs F r en st = evSs F r en st := id rfl
end
/-! the laid ones of the newest kinds -/
section
variable (F : Fs)
theorem k_srtc (elt tg ifs own en xs ps st) : kSrtc F elt tg ifs own en ⟨xs, ps⟩ st = ((scLoop ps (lcG F tg) (evT F ifs) (evE F elt) (wipeE en own) xs [] st).calm).bind kSrt2 := id rfl
end
theorem sc_map {ps : List (Nat × List D)} {g : D → En → Sto → R En} {t : En → Sto → R Bool} {e : En → Sto → R Vv} {en : En} {st : Sto} {f : D → Str} (hp : pinOk ps st = true) (xs : List D) : ∀ (acc : List Str), acc.length + xs.length ≤ 4000 → (∀ x ∈ xs, ∃ en2, g x en st = .ok en2 st ∧ t en2 st = .ok true st ∧ e en2 st = .ok (.d (.str (f x))) st) →
    scLoop ps g t e en xs acc st = .ok ((xs.map f).foldl addK acc) st := by
  induction xs with
  | nil => intro acc _ _; simp only [scLoop, hp, if_true, List.map_nil, List.foldl_nil]
  | cons x xs ih =>
    intro acc hl h
    obtain ⟨en2, h1, h2, h3⟩ := h x (by simp)
    simp only [List.length_cons] at hl
    have hlen := addK_len acc (f x)
    simp only [scLoop, hp, if_true, h1, bind_ok, h2, h3, List.map_cons, List.foldl_cons]
    rw [if_pos (by omega)]
    exact ih (addK acc (f x)) (by omega) fun y hy => h y (List.mem_cons_of_mem _ hy)
/-! refusals -/
section
variable (F : Fs)
theorem e_xis (a ms en st) : evE F (.xis a ms) en st = (evE F a en st).bind (kXis ms) := id rfl
theorem k_xis (ms) (z : Xn) (st) : kXis ms (.exn z) st = match ms.lookup z.cls with | some b => .ok (.d (.bl b)) st | none => .stuck := id rfl
theorem e_xfld (a f ms en st) : evE F (.xfld a f ms) en st = (evE F a en st).bind (kXfld f ms) := id rfl
theorem k_xfld (f ms) (z : Xn) (st) : kXfld f ms (.exn z) st = if ms.contains z.cls = true then give (z.fs.lookup f) st else .stuck := id rfl
theorem s_rais (c fs as en st) : evS F (.rais c fs as) en st = (evEs F as en st).go en (kRais c fs en) := id rfl
theorem k_rais1 (c f en) (x : D) (st) : kRais c [f] en [.d x] st = .exc ⟨c, [(f, x)]⟩ en st := id rfl
theorem k_rais2 (c f g en) (x y : D) (st) : kRais c [f, g] en [.d x, .d y] st = .exc ⟨c, [(g, y), (f, x)]⟩ en st := id rfl
def kCat (hs : Hs) (x : Xn) (en : En) (st : Sto) : RS := evH F hs x en st
theorem s_try (b hs en st) : evS F (.try_ b hs) en st = (evSs F b en st).caught (kCat F hs) := id rfl
theorem cat_nx (h : Xn → En → Sto → RS) (en st) : RS.caught h (.nx en st) = .nx en st := id rfl
theorem cat_rt (h : Xn → En → Sto → RS) (v st) : RS.caught h (.rt v st) = .rt v st := id rfl
theorem cat_exc (h : Xn → En → Sto → RS) (x en st) : RS.caught h (.exc x en st) = h x en st := id rfl
theorem k_cat (ms i b r x en st) : kCat F (.cons ms i b r) x en st = match anyX ms x.cls with
    | some true => (evSs F b (putO i (.exn x) en) st).out i
    | some false => kCat F r x en st
    | none => .stuck := id rfl
theorem out_rt (i v st) : RS.out i (.rt v st) = .rt v st := id rfl
theorem out_nx (i en st) : RS.out (some i) (.nx en st) = .nx (en.set i none) st := id rfl
end
end TW
namespace TW
open PySem PySem.Spec PyProof.Rows L2
/-! ### joining of ways -/
theorem ite_and (x y : Bool) (st : Sto) : (if x = true then (R.ok (.d (.bl y)) st : R Vv) else .ok (.d (.bl x)) st) = .ok (.d (.bl (x && y))) st := by cases x <;> rfl
theorem ite_or (x y : Bool) (st : Sto) : (if x = true then (R.ok (.d (.bl x)) st : R Vv) else .ok (.d (.bl y)) st) = .ok (.d (.bl (x || y))) st := by cases x <;> rfl
theorem ite_okb (c x y : Bool) (st : Sto) : (if c = true then (R.ok (.d (.bl x)) st : R Vv) else .ok (.d (.bl y)) st) = .ok (.d (.bl (if c = true then x else y))) st := by cases c <;> rfl
theorem ite_rtb (c x y : Bool) (st : Sto) : (if c = true then (RS.rt (.d (.bl x)) st : RS) else .rt (.d (.bl y)) st) = .rt (.d (.bl (if c = true then x else y))) st := by cases c <;> rfl
theorem ite_f (c y : Bool) : (if c = true then false else y) = (!c && y) := by cases c <;> rfl
theorem ite_t (c y : Bool) : (if c = true then true else y) = (c || y) := by cases c <;> rfl
theorem ite_seq (c : Bool) (a b : RS) (f : En → Sto → RS) : (if c = true then a else b).seq f = if c = true then a.seq f else b.seq f := by cases c <;> rfl
theorem ite_bind (c : Bool) (a b : R Vv) (f : Vv → Sto → R Vv) : (if c = true then a else b).bind f = if c = true then a.bind f else b.bind f := by cases c <;> rfl
theorem bools_map {α : Type} (f : α → Bool) : ∀ xs : List α, bools (xs.map fun d => .bl (f d)) = some (xs.map f)
  | [] => rfl
  | x :: xs => by simp only [List.map_cons, bools, bools_map f xs]
theorem all_map {α : Type} (f : α → Bool) (xs : List α) : allD [.lst (xs.map fun d => .bl (f d))] = some (.bl (xs.all f)) := by
  simp only [allD, bools_map f xs]
  congr 2
  rw [List.all_map]
  rfl
theorem any_map {α : Type} (f : α → Bool) (xs : List α) : anyD [.lst (xs.map fun d => .bl (f d))] = some (.bl (xs.any f)) := by
  simp only [anyD, bools_map f xs]
  congr 2
  rw [List.any_map]
  rfl
theorem all_id (xs : List Bool) : xs.all id = xs.all fun x => x := rfl
/-- a comprehension, nothing left out, over encoded items -/
theorem lc_enc {α : Type} {e : α → D} {f : α → D} {g : D → En → Sto → R En} {t : En → Sto → R Bool} {el : En → Sto → R Vv} {en : En} {st : Sto} (xs : List α) (acc : List D) (h : ∀ x ∈ xs, ∃ en2, g (e x) en st = .ok en2 st ∧ t en2 st = .ok true st ∧ el en2 st = .ok (.d (f x)) st) :
    lcLoop [] g t el en (xs.map e) acc st = .ok (.d (.lst (acc ++ xs.map f))) st := by
  induction xs generalizing acc with
  | nil => rw [List.map_nil, lc_nil _ _ _ _ _ _ _ (pin_nil st)]; simp
  | cons x xs ih =>
    obtain ⟨en2, h1, h2, h3⟩ := h x (by simp)
    rw [List.map_cons, lc_cons _ _ _ _ _ _ _ _ _ (pin_nil st), h1, bind_ok, h2, bind_ok, if_pos rfl, h3, bind_ok]
    show lcLoop [] g t el en (xs.map e) (acc ++ [f x]) st = _
    rw [ih (acc ++ [f x]) fun y hy => h y (List.mem_cons_of_mem _ hy)]
    simp
/-- .. with a test -/
theorem lc_encF {α : Type} {e : α → D} {f : α → D} {p : α → Bool} {g : D → En → Sto → R En} {t : En → Sto → R Bool} {el : En → Sto → R Vv} {en : En} {st : Sto} (xs : List α) (acc : List D) (h : ∀ x ∈ xs, ∃ en2, g (e x) en st = .ok en2 st ∧ t en2 st = .ok (p x) st ∧ (p x = true → el en2 st = .ok (.d (f x)) st)) :
    lcLoop [] g t el en (xs.map e) acc st = .ok (.d (.lst (acc ++ (xs.filter p).map f))) st := by
  induction xs generalizing acc with
  | nil => rw [List.map_nil, lc_nil _ _ _ _ _ _ _ (pin_nil st)]; simp
  | cons x xs ih =>
    obtain ⟨en2, h1, h2, h3⟩ := h x (by simp)
    have ih' := fun acc => ih acc fun y hy => h y (List.mem_cons_of_mem _ hy)
    rw [List.map_cons, lc_cons _ _ _ _ _ _ _ _ _ (pin_nil st), h1, bind_ok, h2, bind_ok]
    cases hp : p x with
    | true =>
      rw [if_pos rfl, h3 hp, bind_ok]
      show lcLoop [] g t el en (xs.map e) (acc ++ [f x]) st = _
      rw [ih' (acc ++ [f x]), List.filter_cons_of_pos hp]
      simp
    | false =>
      rw [if_neg (by simp), ih' acc, List.filter_cons_of_neg (by simp [hp])]
/-- .. the target a name -/
theorem lc_name {F : Fs} {ps : List (Nat × List D)} {i : Nat} {el : E} {en : En} {st : Sto} {f : D → D} (hp : pinOk ps st = true) (xs acc : List D) (h : ∀ x ∈ xs, evE F el (en.set i (some (.d x))) st = .ok (.d (f x)) st) :
    lcLoop ps (lcG F (.name i)) (evT F .nil) (evE F el) en xs acc st = .ok (.d (.lst (acc ++ xs.map f))) st :=
  lc_map hp xs acc fun x hx => ⟨_, rfl, rfl, h x hx⟩
theorem lc_true {F : Fs} {ps : List (Nat × List D)} {tg : Tg} {el : E} {en : En} {st : Sto} (hp : pinOk ps st = true) (xs : List D) (h : ∀ x ∈ xs, ∃ en2, evG F tg (.d x) en st = .ok en2 st ∧ evE F el en2 st = .ok (.d (.bl true)) st) :
    ((lcLoop ps (lcG F tg) (evT F .nil) (evE F el) en xs [] st).calm.bind fun x st => opn (bfD .all) [x] st) = .ok (.d (.bl true)) st := by
  rw [lc_map (f := fun _ => .bl true) hp xs [] fun x hx => by obtain ⟨en2, h1, h2⟩ := h x hx; exact ⟨en2, h1, rfl, h2⟩]
  show give (allD [.lst (xs.map fun _ => .bl true)]) st = _
  rw [all_map (fun _ => true)]
  simp [give]
/-- a comprehension that changes the store -/
theorem lc_invN {F : Fs} {i : Nat} {el : E} {en : En} {I : List D → Sto → Prop} (xs acc : List D) (st : Sto) (h0 : I acc st) (hs : ∀ x ∈ xs, ∀ acc st, I acc st → ∃ y st2, evE F el (en.set i (some (.d x))) st = .ok (.d y) st2 ∧ I (acc ++ [y]) st2) :
    ∃ ys st2, lcLoop [] (lcG F (.name i)) (evT F .nil) (evE F el) en xs acc st = .ok (.d (.lst ys)) st2 ∧ I ys st2 ∧ ys.length = acc.length + xs.length := by
  induction xs generalizing acc st with
  | nil => exact ⟨acc, st, by rw [lc_nil _ _ _ _ _ _ _ (pin_nil st)], h0, rfl⟩
  | cons x xs ih =>
    obtain ⟨y, st1, h1, h2⟩ := hs x (by simp) acc st h0
    obtain ⟨ys, st2, h3, h4, h5⟩ := ih (acc ++ [y]) st1 h2 fun z hz => hs z (List.mem_cons_of_mem _ hz)
    refine ⟨ys, st2, ?_, h4, by simp at h5; simp; omega⟩
    rw [lc_cons _ _ _ _ _ _ _ _ _ (pin_nil st)]
    show (R.ok (en.set i (some (.d x))) st).bind _ = _
    rw [bind_ok]
    show (R.ok true st).bind _ = _
    rw [bind_ok, if_pos rfl, h1, bind_ok]
    exact h3
theorem recv_app (st : Sto) (xs : List D) : recv .append (.ref st.length) (st ++ [.lst xs]) = true := by simp [recv, isLst]
theorem do_app (st : Sto) (xs : List D) (x : D) (h : xs.length < 16777216) : doM .append (.ref st.length) [.d x] (st ++ [.lst xs]) = .ok (.d .non) (st ++ [.lst (xs ++ [x])]) := by
  have h' : xs.length < sizeLine := by rw [sizeLine_eq]; exact h
  simp [doM, appV, h']
theorem get_end (st : Sto) (o : MO) : (st ++ [o])[st.length]? = some o := by simp
/-- a loop carries a state that stands for the slots and the store -/
theorem for_rel {α β : Type} {e : α → D} {g : D → En → Sto → R En} {b : En → Sto → RS} {I : β → En → Sto → Prop} {f : β → α → β} (xs : List α) (s : β) (en : En) (st : Sto) (h0 : I s en st)
    (hs : ∀ x ∈ xs, ∀ s en st, I s en st → ∃ en1 st1 en2 st2, g (e x) en st = .ok en1 st1 ∧ b en1 st1 = .nx en2 st2 ∧ I (f s x) en2 st2) :
    ∃ en2 st2, forLoop [] g b (xs.map e) en st = .nx en2 st2 ∧ I (xs.foldl f s) en2 st2 := by
  induction xs generalizing s en st with
  | nil => exact ⟨en, st, rfl, h0⟩
  | cons x xs ih =>
    obtain ⟨en1, st1, en2, st2, h1, h2, h3⟩ := hs x (by simp) s en st h0
    obtain ⟨en3, st3, h4, h5⟩ := ih (f s x) en2 st2 h3 fun y hy => hs y (List.mem_cons_of_mem _ hy)
    exact ⟨en3, st3, by rw [List.map_cons, for_cons, h1, calm_ok', go_ok, k_body, h2, turn_nx, k_turn, h4], h5⟩
theorem kirN (m : Nat) (st : Sto) (hm : m < 4611686018427387904) : kIr (.d (.int m)) st = .ok ⟨(List.range m).map fun (i : Nat) => D.int i, []⟩ st := by
  rw [k_ir _ _ (by omega)]
  simp only [Int.toNat_natCast]
theorem lcg_name (F : Fs) (i : Nat) (x : D) (en : En) (st : Sto) : lcG F (.name i) x en st = .ok (en.set i (some (.d x))) st := rfl
theorem for_relN {α β : Type} {e : α → D} {F : Fs} {i : Nat} {b : Ss} {I : β → En → Sto → Prop} {f : β → α → β} (xs : List α) (s : β) (en : En) (st : Sto) (h0 : I s en st)
    (hs : ∀ x ∈ xs, ∀ s en st, I s en st → ∃ en2 st2, evSs F b (en.set i (some (.d (e x)))) st = .nx en2 st2 ∧ I (f s x) en2 st2) :
    ∃ en2 st2, forLoop [] (lcG F (.name i)) (evSs F b) (xs.map e) en st = .nx en2 st2 ∧ I (xs.foldl f s) en2 st2 :=
  for_rel xs s en st h0 fun x hx s en st h => by
    obtain ⟨en2, st2, h1, h2⟩ := hs x hx s en st h
    exact ⟨_, _, en2, st2, lcg_name F i _ en st, h1, h2⟩
theorem for_invN {α : Type} {e : α → D} {F : Fs} {i : Nat} {b : Ss} {I : En → Sto → Prop} (xs : List α) (en : En) (st : Sto) (h0 : I en st)
    (hs : ∀ x ∈ xs, ∀ en st, I en st → ∃ en2 st2, evSs F b (en.set i (some (.d (e x)))) st = .nx en2 st2 ∧ I en2 st2) :
    ∃ en2 st2, forLoop [] (lcG F (.name i)) (evSs F b) (xs.map e) en st = .nx en2 st2 ∧ I en2 st2 := by
  obtain ⟨en2, st2, h1, h2⟩ := for_relN (β := Unit) (f := fun _ _ => ()) (I := fun _ => I) (e := e) (F := F) (i := i) (b := b) xs () en st h0 (fun x hx _ => hs x hx)
  exact ⟨en2, st2, h1, h2⟩
/-- a loop keeps what holds -/
theorem for_inv {α : Type} {e : α → D} {g : D → En → Sto → R En} {b : En → Sto → RS} {I : En → Sto → Prop} (xs : List α) (en : En) (st : Sto) (h0 : I en st)
    (hs : ∀ x ∈ xs, ∀ en st, I en st → ∃ en1 st1 en2 st2, g (e x) en st = .ok en1 st1 ∧ b en1 st1 = .nx en2 st2 ∧ I en2 st2) :
    ∃ en2 st2, forLoop [] g b (xs.map e) en st = .nx en2 st2 ∧ I en2 st2 := by
  obtain ⟨en2, st2, h1, h2⟩ := for_rel (β := Unit) (f := fun _ _ => ()) (I := fun _ => I) (e := e) (g := g) (b := b) xs () en st h0 (fun x hx _ => hs x hx)
  exact ⟨en2, st2, h1, h2⟩
theorem mulI {i j : Int} {a b : Nat} (h1 : i.natAbs < 2 ^ a) (h2 : j.natAbs < 2 ^ b) (h : a + b < 100000000) : binD .Mult (.int i) (.int j) = some (.int (i * j)) := by
  have q : ∀ {i : Int} {a : Nat}, i.natAbs < 2 ^ a → i.natAbs.log2 ≤ a := by
    intro i a h
    by_cases h0 : i.natAbs = 0
    · rw [h0]; simp
    · exact Nat.le_of_lt ((Nat.log2_lt h0).mpr h)
  simp only [binD]
  have := q h1
  have := q h2
  rw [if_pos (.inr (.inr (by omega)))]
theorem mulL {i j : Int} (h : i.natAbs < 18446744073709551616) : binD .Mult (.int i) (.int j) = some (.int (i * j)) := by
  simp only [binD]
  rw [if_pos (.inl h)]
theorem mulR {i j : Int} (h : j.natAbs < 18446744073709551616) : binD .Mult (.int i) (.int j) = some (.int (i * j)) := by
  simp only [binD]
  rw [if_pos (.inr (.inl h))]
theorem log2_le {n a : Nat} (h : n < 2 ^ a) : n.log2 ≤ a := by
  by_cases h0 : n = 0
  · rw [h0]; simp
  · exact Nat.le_of_lt ((Nat.log2_lt h0).mpr h)
theorem addI (i j : Int) : binD .Add (.int i) (.int j) = some (.int (i + j)) := rfl
theorem subI (i j : Int) : binD .Sub (.int i) (.int j) = some (.int (i - j)) := rfl
theorem mod_pos {i j : Int} (h : 0 < j) : binD .Mod (.int i) (.int j) = some (.int (i % j)) := by
  simp only [binD]
  rw [if_pos (by omega), Int.fmod_eq_emod_of_nonneg _ (by omega)]
theorem fdiv_pos {i j : Int} {b : Nat} (h : 0 < j) (h2 : j.natAbs < 2 ^ b) (hb : b < 9000) : binD .FloorDiv (.int i) (.int j) = some (.int (i / j)) := by
  have a := log2_le h2
  simp only [binD]
  rw [if_pos (by omega), Int.fdiv_eq_ediv_of_nonneg _ (by omega)]
theorem absI (i : Int) : absD [.int i] = some (.int i.natAbs) := by
  simp only [absD]
  congr 2
  split <;> omega
/-! ### Euclid -/
theorem euclid {c : En → Sto → R Bool} {b : En → Sto → RS} {mk : Nat → Nat → En} {st : Sto} (hc0 : ∀ x, c (mk x 0) st = .ok false st) (hc1 : ∀ x y, 0 < y → c (mk x y) st = .ok true st) (hb : ∀ x y, 0 < y → b (mk x y) st = .nx (mk y (x % y)) st) :
    ∀ (n x y fuel : Nat), y < 2 ^ n → 2 * n + 1 ≤ fuel → whLoop c b fuel (mk x y) st = .nx (mk (Nat.gcd x y) 0) st := by
  have h0 : ∀ x fuel, 1 ≤ fuel → whLoop c b fuel (mk x 0) st = .nx (mk x 0) st := by
    intro x fuel hf
    obtain ⟨f, rfl⟩ : ∃ f, fuel = f + 1 := ⟨fuel - 1, by omega⟩
    simp only [whLoop, hc0, go_ok, Bool.false_eq_true, if_false]
  have h1 : ∀ x y fuel, 0 < y → whLoop c b (fuel + 1) (mk x y) st = whLoop c b fuel (mk y (x % y)) st := by
    intro x y fuel hy
    simp only [whLoop, hc1 x y hy, go_ok, if_true, hb x y hy, turn_nx]
  intro n
  induction n with
  | zero =>
    intro x y fuel hy hf
    have : y = 0 := by omega
    subst this
    rw [h0 x fuel (by omega), Nat.gcd_zero_right]
  | succ n ih =>
    intro x y fuel hy hf
    by_cases hz : y = 0
    · subst hz
      rw [h0 x fuel (by omega), Nat.gcd_zero_right]
    · obtain ⟨f, rfl⟩ : ∃ f, fuel = f + 2 := ⟨fuel - 2, by omega⟩
      rw [h1 x y (f + 1) (by omega)]
      have g1 : Nat.gcd x y = Nat.gcd y (x % y) := by rw [Nat.gcd_comm, Nat.gcd_rec, Nat.gcd_comm]
      by_cases hr : x % y = 0
      · rw [hr, h0 y (f + 1) (by omega), g1, hr, Nat.gcd_zero_right]
      · rw [h1 y (x % y) f (by omega), g1]
        have g2 : Nat.gcd y (x % y) = Nat.gcd (x % y) (y % (x % y)) := by rw [Nat.gcd_comm, Nat.gcd_rec, Nat.gcd_comm]
        rw [g2]
        refine ih _ _ f ?_ (by omega)
        have a1 : x % y < y := Nat.mod_lt _ (by omega)
        have a2 : y % (x % y) < x % y := Nat.mod_lt _ (by omega)
        have a3 : y % (x % y) + (x % y) ≤ y := by
          have := Nat.div_add_mod y (x % y)
          have h3 : 1 ≤ y / (x % y) := Nat.div_pos (by omega) (by omega)
          have h4 := Nat.mul_le_mul_left (x % y) h3
          omega
        have : 2 ^ (n + 1) = 2 * 2 ^ n := by rw [Nat.pow_succ, Nat.mul_comm]
        omega
theorem modN {x y : Nat} (h : 0 < y) : binD .Mod (.int x) (.int y) = some (.int ((x % y : Nat) : Int)) := by
  rw [mod_pos (by omega)]
  rfl
/-! ### fractions as rational numbers -/
def qD (q : Rat) : D := .tup [.int q.num, .int q.den]
def Fit (n : Nat) (q : Rat) : Prop := q.num.natAbs < 2 ^ n ∧ q.den < 2 ^ n
theorem Fit.mono {n m : Nat} {q : Rat} (h : Fit n q) (l : n ≤ m) : Fit m q :=
  ⟨Nat.lt_of_lt_of_le h.1 (Nat.pow_le_pow_right (by omega) l), Nat.lt_of_lt_of_le h.2 (Nat.pow_le_pow_right (by omega) l)⟩
theorem natAbs_div_le (a : Int) (g : Nat) : (a / (g : Int)).natAbs ≤ a.natAbs ∨ g = 0 := by
  by_cases h : g = 0
  · exact .inr h
  · left
    rcases Int.le_total 0 a with h0 | h0
    · have h1 : a / (g : Int) ≤ a := Int.ediv_le_self _ h0
      have h2 : 0 ≤ a / (g : Int) := Int.ediv_nonneg h0 (by omega)
      omega
    · have h2 : a / (g : Int) ≤ 0 := Int.ediv_nonpos_of_nonpos_of_neg h0 (by omega)
      have : a ≤ a / (g : Int) := by
        rw [Int.le_ediv_iff_mul_le (by omega)]
        have : (g : Int) ≥ 1 := by omega
        have := Int.mul_le_mul_of_nonpos_left h0 this
        omega
      omega
theorem fit_mk {t : Int} {b n : Nat} (h0 : b ≠ 0) (h1 : t.natAbs < 2 ^ n) (h2 : b < 2 ^ n) : Fit n (mkRat t b) := by
  refine ⟨?_, ?_⟩
  · rw [Rat.num_mkRat, if_neg h0]
    rcases natAbs_div_le t (b.gcd t.natAbs) with h | h
    · omega
    · have := Nat.gcd_pos_of_pos_left t.natAbs (show 0 < b by omega)
      omega
  · rw [Rat.den_mkRat, if_neg h0]
    exact Nat.lt_of_le_of_lt (Nat.div_le_self _ _) h2
theorem Fit.add {a b : Rat} {n m : Nat} (ha : Fit n a) (hb : Fit m b) : Fit (n + m + 1) (a + b) := by
  rw [Rat.add_def']
  refine fit_mk (Nat.mul_ne_zero a.den_nz b.den_nz) ?_ ?_
  · have h1 : a.num.natAbs * b.den < 2 ^ n * 2 ^ m := Nat.mul_lt_mul'' ha.1 hb.2
    have h2 : b.num.natAbs * a.den < 2 ^ m * 2 ^ n := Nat.mul_lt_mul'' hb.1 ha.2
    have h3 : (a.num * b.den + b.num * a.den).natAbs ≤ a.num.natAbs * b.den + b.num.natAbs * a.den := by
      refine Nat.le_trans (Int.natAbs_add_le _ _) ?_
      simp [Int.natAbs_mul]
    rw [Nat.pow_succ, Nat.pow_add]
    rw [Nat.mul_comm (2 ^ m)] at h2
    omega
  · have h1 : a.den * b.den < 2 ^ n * 2 ^ m := Nat.mul_lt_mul'' ha.2 hb.2
    rw [Nat.pow_succ, Nat.pow_add]
    omega
theorem Fit.neg {a : Rat} {n : Nat} (ha : Fit n a) : Fit n (-a) := ⟨by simpa using ha.1, by simpa using ha.2⟩
theorem Fit.sub {a b : Rat} {n m : Nat} (ha : Fit n a) (hb : Fit m b) : Fit (n + m + 1) (a - b) := by
  rw [Rat.sub_eq_add_neg]
  exact ha.add hb.neg
theorem Fit.mul {a b : Rat} {n m : Nat} (ha : Fit n a) (hb : Fit m b) : Fit (n + m) (a * b) := by
  rw [Rat.mul_def']
  refine fit_mk (Nat.mul_ne_zero a.den_nz b.den_nz) ?_ ?_
  · rw [Int.natAbs_mul, Nat.pow_add]
    exact Nat.mul_lt_mul'' ha.1 hb.1
  · rw [Nat.pow_add]
    exact Nat.mul_lt_mul'' ha.2 hb.2
theorem Fit.inv {a : Rat} {n : Nat} (ha : Fit n a) : Fit n a⁻¹ := by
  have h2 := ha.2
  have h1 := ha.1
  refine ⟨?_, ?_⟩
  · rw [Rat.num_inv, Int.natAbs_mul]
    have : a.num.sign.natAbs ≤ 1 := by rw [Int.natAbs_sign]; split <;> omega
    have := Nat.mul_le_mul_right (a.den : Int).natAbs this
    simp only [Int.natAbs_natCast, Nat.one_mul] at this ⊢
    omega
  · rw [Rat.den_inv]
    split
    · have := a.den_pos; omega
    · exact h1
theorem Fit.div {a b : Rat} {n m : Nat} (ha : Fit n a) (hb : Fit m b) : Fit (n + m) (a / b) := by
  rw [Rat.div_def]
  exact ha.mul hb.inv
theorem qD_inj {a b : Rat} (h : qD a = qD b) : a = b := by
  simp only [qD, D.tup.injEq, List.cons.injEq, D.int.injEq, and_true] at h
  exact Rat.ext h.1 (by omega)
theorem eqD_q (a b : Rat) : eqD (qD a) (qD b) = decide (a = b) := by
  simp only [qD, eqD, eqDs, Bool.and_true]
  rw [Bool.eq_iff_iff]
  simp only [Bool.and_eq_true, beq_iff_eq, decide_eq_true_eq]
  constructor
  · rintro ⟨h1, h2⟩; exact Rat.ext h1 (by omega)
  · rintro rfl; exact ⟨rfl, rfl⟩
theorem c_eq_q (a b : Rat) : cmpD .Eq (qD a) (qD b) = some (decide (a = b)) := by
  have := eqD_q a b
  simp only [cmpD, eqO, this]
  simp [qD, dep, deps]
theorem c_ne_q (a b : Rat) : cmpD .NotEq (qD a) (qD b) = some (!decide (a = b)) := by
  have := c_eq_q a b
  simp only [cmpD] at this ⊢
  have e : eqO1 (qD a) (qD b) = eqO (qD a) (qD b) := rfl
  rw [e, this]
  rfl
theorem g_tupq (F : Fs) (ts : Tgs) (q : Rat) (en : En) (st : Sto) : evG F (.tup ts) (.d (qD q)) en st = evGs F ts [.int q.num, .int q.den] en st := id rfl
theorem idx_q0 (q : Rat) : idxD (qD q) (.int 0) = some (.int q.num) := id rfl
theorem idx_q1 (q : Rat) : idxD (qD q) (.int 1) = some (.int q.den) := id rfl
theorem is_tuple_q (q : Rat) : isiD "tuple" (qD q) = .bl true := is_tuple_tup _
theorem len_q (q : Rat) : lenD [qD q] = some (.int 2) := id rfl
theorem k_ivq (q : Rat) (st : Sto) : kIv (.d (qD q)) st = .ok ⟨[.int q.num, .int q.den], []⟩ st := id rfl
theorem qD_zero : D.tup [.int 0, .int 1] = qD 0 := rfl
theorem qD_one : D.tup [.int 1, .int 1] = qD 1 := rfl
end TW
namespace TW
open PySem PySem.Spec PyProof.Rows L2
/-! is_number -/
def I1 : Ss := (.cons (.ret (.and (.isi (.var 0) "int") (.not (.isi (.var 0) "bool")))) .nil)
/-! divisor_of -/
def I2c1 : E := (.var 1)
def I2b1 : Ss := (.cons (.par [0, 1] (.cons (.var 1) (.cons (.bin .Mod (.var 0) (.var 1)) .nil))) .nil)
def I2 : Ss := (.cons (.while_ I2c1 I2b1) (.cons (.ret (.var 0)) .nil))
/-! is_fraction -/
def I3e1 : E := (.call 1 (.cons (.var 1) .nil) .nil [.inl 0])
def I3 : Ss := (.cons (.iff (.or (.not (.isi (.var 0) "tuple")) (.or (.cmp .NotEq (.blt .len (.cons (.var 0) .nil)) (.con (.int 2))) (.not (.blt .all (.cons (.lc I3e1 (.name 1) (.val (.var 0)) .nil [1]) .nil))))) (.cons (.ret (.con (.bl false))) .nil) .nil) (.cons (.asg (.tup (.cons (.name 2) (.cons (.name 3) .nil))) (.var 0)) (.cons (.ret (.and (.cmp .Gt (.var 3) (.con (.int 0))) (.cmp .Eq (.call 2 (.cons (.blt .abs (.cons (.var 2) .nil)) (.cons (.var 3) .nil)) .nil [.inl 0, .inl 1]) (.con (.int 1))))) .nil)))
/-! lowest -/
def I4 : Ss := (.cons (.asg (.name 2) (.call 2 (.cons (.blt .abs (.cons (.var 0) .nil)) (.cons (.blt .abs (.cons (.var 1) .nil)) .nil)) .nil [.inl 0, .inl 1])) (.cons (.iff (.cmp .Lt (.var 1) (.con (.int 0))) (.cons (.asg (.name 2) (.neg (.var 2))) .nil) .nil) (.cons (.ret (.tup (.cons (.bin .FloorDiv (.var 0) (.var 2)) (.cons (.bin .FloorDiv (.var 1) (.var 2)) .nil)))) .nil)))
/-! fraction -/
def I5 : Ss := (.cons (.iff (.not (.call 1 (.cons (.var 0) .nil) .nil [.inl 0])) (.cons (.rais ⟨#[78, 111, 78, 117, 109, 98, 101, 114]⟩ [⟨#[112, 108, 97, 99, 101]⟩] (.cons (.con (.int 0)) .nil)) .nil) .nil) (.cons (.iff (.or (.not (.call 1 (.cons (.var 1) .nil) .nil [.inl 0])) (.cmp .Eq (.var 1) (.con (.int 0)))) (.cons (.rais ⟨#[78, 111, 78, 117, 109, 98, 101, 114]⟩ [⟨#[112, 108, 97, 99, 101]⟩] (.cons (.con (.int 1)) .nil)) .nil) .nil) (.cons (.ret (.call 4 (.cons (.var 0) (.cons (.var 1) .nil)) .nil [.inl 0, .inl 1])) .nil)))
/-! check_both -/
def I6b1 : Ss := (.cons (.iff (.not (.call 3 (.cons (.var 3) .nil) .nil [.inl 0])) (.cons (.rais ⟨#[78, 111, 78, 117, 109, 98, 101, 114]⟩ [⟨#[112, 108, 97, 99, 101]⟩] (.cons (.var 2) .nil)) .nil) .nil) .nil)
def I6 : Ss := (.cons (.for_ (.tup (.cons (.name 2) (.cons (.name 3) .nil))) (.enum (.tup (.cons (.var 0) (.cons (.var 1) .nil)))) I6b1) .nil)
/-! plus -/
def I7 : Ss := (.cons (.expr (.call 6 (.cons (.var 0) (.cons (.var 1) .nil)) .nil [.inl 0, .inl 1])) (.cons (.asg (.tup (.cons (.tup (.cons (.name 2) (.cons (.name 3) .nil))) (.cons (.tup (.cons (.name 4) (.cons (.name 5) .nil))) .nil))) (.tup (.cons (.var 0) (.cons (.var 1) .nil)))) (.cons (.ret (.call 4 (.cons (.bin .Add (.bin .Mult (.var 2) (.var 5)) (.bin .Mult (.var 4) (.var 3))) (.cons (.bin .Mult (.var 3) (.var 5)) .nil)) .nil [.inl 0, .inl 1])) .nil)))
/-! minus -/
def I8 : Ss := (.cons (.expr (.call 6 (.cons (.var 0) (.cons (.var 1) .nil)) .nil [.inl 0, .inl 1])) (.cons (.asg (.tup (.cons (.tup (.cons (.name 2) (.cons (.name 3) .nil))) (.cons (.tup (.cons (.name 4) (.cons (.name 5) .nil))) .nil))) (.tup (.cons (.var 0) (.cons (.var 1) .nil)))) (.cons (.ret (.call 4 (.cons (.bin .Sub (.bin .Mult (.var 2) (.var 5)) (.bin .Mult (.var 4) (.var 3))) (.cons (.bin .Mult (.var 3) (.var 5)) .nil)) .nil [.inl 0, .inl 1])) .nil)))
/-! times -/
def I9 : Ss := (.cons (.expr (.call 6 (.cons (.var 0) (.cons (.var 1) .nil)) .nil [.inl 0, .inl 1])) (.cons (.ret (.call 4 (.cons (.bin .Mult (.idx (.var 0) (.con (.int 0))) (.idx (.var 1) (.con (.int 0)))) (.cons (.bin .Mult (.idx (.var 0) (.con (.int 1))) (.idx (.var 1) (.con (.int 1)))) .nil)) .nil [.inl 0, .inl 1])) .nil))
/-! over -/
def I10 : Ss := (.cons (.expr (.call 6 (.cons (.var 0) (.cons (.var 1) .nil)) .nil [.inl 0, .inl 1])) (.cons (.iff (.cmp .Eq (.var 1) (.con (.tup [(.int 0), (.int 1)]))) (.cons (.rais ⟨#[78, 111, 78, 117, 109, 98, 101, 114]⟩ [⟨#[112, 108, 97, 99, 101]⟩] (.cons (.con (.int 1)) .nil)) .nil) .nil) (.cons (.ret (.call 4 (.cons (.bin .Mult (.idx (.var 0) (.con (.int 0))) (.idx (.var 1) (.con (.int 1)))) (.cons (.bin .Mult (.idx (.var 0) (.con (.int 1))) (.idx (.var 1) (.con (.int 0)))) .nil)) .nil [.inl 0, .inl 1])) .nil)))
/-! below -/
def I11 : Ss := (.cons (.expr (.call 6 (.cons (.var 0) (.cons (.var 1) .nil)) .nil [.inl 0, .inl 1])) (.cons (.ret (.cmp .Lt (.bin .Mult (.idx (.var 0) (.con (.int 0))) (.idx (.var 1) (.con (.int 1)))) (.bin .Mult (.idx (.var 1) (.con (.int 0))) (.idx (.var 0) (.con (.int 1)))))) .nil))
/-! _law_cell -/
def I12b1 : Ss := (.cons (.asg (.name 2) (.bin .Mod (.bin .Add (.bin .Mult (.var 2) (.con (.int 38011))) (.var 3)) (.con (.int 2147483423)))) .nil)
def I12 : Ss := (.cons (.iff (.cmp .Lt (.var 1) (.blt .len (.cons (.var 0) .nil))) (.cons (.ret (.idx (.var 0) (.var 1))) .nil) .nil) (.cons (.asg (.name 2) (.bin .Mod (.bin .Mult (.con (.int 70003)) (.bin .Add (.bin .Add (.bin .Mult (.var 1) (.var 1)) (.bin .Mult (.con (.int 7)) (.var 1))) (.con (.int 5)))) (.con (.int 2147483423)))) (.cons (.for_ (.name 3) (.val (.slc (.var 0) .none (.some (.con (.int 3))))) I12b1) (.cons (.ret (.var 2)) .nil))))
/-! _law_pool -/
def I13 : Ss := (.cons (.asg (.name 1) (.con (.int 0))) (.cons (.iff (.or (.cmp .Lt (.var 0) (.con (.int 0))) (.cmp .GtE (.var 0) (.bin .Pow (.con (.int 10)) (.con (.int 18))))) (.cons (.asg (.name 1) (.blt .abs (.cons (.var 0) .nil))) .nil) .nil) (.cons (.ret (.new (.lst (.cons (.bin .Mod (.var 0) (.con (.int 2147483423))) (.cons (.var 1) (.cons (.con (.int 0)) .nil)))))) .nil)))
/-! _law_take -/
def I14 : Ss := (.cons (.asg (.sub (.var 0) (.con (.int 2))) (.bin .Add (.idx (.var 0) (.con (.int 2))) (.con (.int 1)))) (.cons (.asg (.name 2) (.idx (.var 0) (.con (.int 0)))) (.cons (.asg (.sub (.var 0) (.con (.int 0))) (.bin .Mod (.bin .Add (.bin .Mult (.var 2) (.bin .Add (.bin .Mod (.var 2) (.con (.int 45013))) (.con (.int 32017)))) (.bin .Mult (.con (.int 90023)) (.idx (.var 0) (.con (.int 2))))) (.con (.int 2147483423)))) (.cons (.iff (.cmp .Gt (.idx (.var 0) (.con (.int 1))) (.con (.int 0))) (.cons (.asg (.tup (.cons (.sub (.var 0) (.con (.int 1))) (.cons (.name 3) .nil))) (.blt .divmod (.cons (.idx (.var 0) (.con (.int 1))) (.cons (.var 1) .nil)))) (.cons (.ret (.var 3)) .nil)) .nil) (.cons (.ret (.bin .Mod (.bin .FloorDiv (.idx (.var 0) (.con (.int 0))) (.con (.int 64))) (.var 1))) .nil)))))
/-! _law_low -/
def I15c1 : E := (.cmp .Gt (.var 3) (.con (.int 0)))
def I15b1 : Ss := (.cons (.par [2, 3] (.cons (.var 3) (.cons (.bin .Mod (.var 2) (.var 3)) .nil))) .nil)
def I15 : Ss := (.cons (.par [2, 3] (.cons (.blt .abs (.cons (.var 0) .nil)) (.cons (.var 1) .nil))) (.cons (.while_ I15c1 I15b1) (.cons (.ret (.tup (.cons (.bin .FloorDiv (.var 0) (.var 2)) (.cons (.bin .FloorDiv (.var 1) (.var 2)) .nil)))) .nil)))
def TC : Tbl := fun i => match i with
  | 1 => some (1, I1)
  | 2 => some (2, I2)
  | 3 => some (4, I3)
  | 4 => some (3, I4)
  | 5 => some (2, I5)
  | 6 => some (4, I6)
  | 7 => some (6, I7)
  | 8 => some (6, I8)
  | 9 => some (2, I9)
  | 10 => some (2, I10)
  | 11 => some (2, I11)
  | 12 => some (4, I12)
  | 13 => some (2, I13)
  | 14 => some (4, I14)
  | 15 => some (4, I15)
  | _ => none
end TW
namespace TW
open PySem PySem.Spec PyProof.Rows L2
local macro_rules
  | `(tactic| simp! only [] $[$loc]?) => `(tactic| simp only [List.map_cons, List.map_nil, List.length_cons, List.length_nil, List.replicate, List.cons_append, List.nil_append, List.append_nil, Nat.reduceAdd, Nat.reduceSub, Nat.zero_add, e_var, e_con, e_bin, k_bin1, k_bin2, e_neg, k_neg, e_not, k_not, e_and, k_and, e_or, k_or, e_cmp, k_cmp1, k_cmp2, e_chain, k_ch1, k_ch2, e_ite, k_ite, e_call, k_call1, k_call2, e_blt, k_blt, e_meth, k_meth1, k_meth2, e_tup, e_lst, e_dct0, e_dcd, e_idx, k_idx1, k_idx2, e_slc, k_slc1, k_slc2, k_slc3, o_none, o_some, k_o, e_new, k_new, e_lc, k_lc, lc_g, es_nil, es_cons, k_es1, k_es2, t_nil, t_cons, k_t, i_val, i_range, i_enum, k_ent, k_enl, enumD, s_par, k_par, setAll, k_body, k_turn, k_ivl, k_ivt, k_ivs, g_name, g_tup, g_sub, k_sub1, gs_nil, gs_cons, k_gs, s_asg, k_asg1, k_nx, s_expr, k_expr, s_ret, k_ret, s_iff, k_if, s_for, k_for, s_aug, s_pass, ss_nil, ss_cons, k_ss, bind_ok, bind_exc, bind_stuck, go_ok, go_exc, seq_nx, seq_rt, seq_exc, turn_nx, turn_rt, turn_exc, calm_ok', end_d, end_nx, end_exc, tru_bl, give, give_b, ders, der, arrD, List.getElem?_cons_zero, List.getElem?_cons_succ, List.set_cons_zero, List.set_cons_succ, if_true, if_false, Bool.false_eq_true, Bool.not_true, Bool.not_false, List.take_length, e_srtc, k_srtc, k_srt2, e_dnewT, e_dnewK, e_dget, k_dg1, e_dkeys, i_keys, e_setl, k_setl, e_isi, k_isi, e_rev, k_rev, e_tin, k_tinP, k_tinN, e_tget, k_tget, g_star, i_zip, is_int_non, is_int_bl, is_int_int, is_int_str, is_int_tup, is_int_lst, is_int_dct, is_str_non, is_str_bl, is_str_int, is_str_str, is_str_tup, is_str_lst, is_str_dct, is_bool_non, is_bool_bl, is_bool_int, is_bool_str, is_bool_tup, is_bool_lst, is_bool_dct, is_tuple_non, is_tuple_bl, is_tuple_int, is_tuple_str, is_tuple_tup, is_tuple_lst, is_tuple_dct, is_list_non, is_list_bl, is_list_int, is_list_str, is_list_tup, is_list_lst, is_list_dct, is_dict_non, is_dict_bl, is_dict_int, is_dict_str, is_dict_tup, is_dict_lst, is_dict_dct, bfD, len_s, len_l, len_t, c_eq_ii, c_ne_ii, c_lt_ii, c_le_ii, c_gt_ii, c_ge_ii, c_is_non, c_isn_non, noneD, Int.cast_ofNat_Int, Int.reduceEq, Int.reduceLT, Int.reduceLE, decide_true, decide_false, kTup, kLst, pures, sizeLine_eq, Nat.reduceLeDiff, g_tupq, idx_q0, idx_q1, is_tuple_q, len_q, k_ivq, e_xis, e_xfld, s_rais, k_rais1, k_rais2, s_try, cat_nx, cat_rt, cat_exc, out_rt, out_nx] $[$loc]?)
  | `(tactic| simp! only [$ls,*] $[$loc]?) => `(tactic| simp only [$ls,*, List.map_cons, List.map_nil, List.length_cons, List.length_nil, List.replicate, List.cons_append, List.nil_append, List.append_nil, Nat.reduceAdd, Nat.reduceSub, Nat.zero_add, e_var, e_con, e_bin, k_bin1, k_bin2, e_neg, k_neg, e_not, k_not, e_and, k_and, e_or, k_or, e_cmp, k_cmp1, k_cmp2, e_chain, k_ch1, k_ch2, e_ite, k_ite, e_call, k_call1, k_call2, e_blt, k_blt, e_meth, k_meth1, k_meth2, e_tup, e_lst, e_dct0, e_dcd, e_idx, k_idx1, k_idx2, e_slc, k_slc1, k_slc2, k_slc3, o_none, o_some, k_o, e_new, k_new, e_lc, k_lc, lc_g, es_nil, es_cons, k_es1, k_es2, t_nil, t_cons, k_t, i_val, i_range, i_enum, k_ent, k_enl, enumD, s_par, k_par, setAll, k_body, k_turn, k_ivl, k_ivt, k_ivs, g_name, g_tup, g_sub, k_sub1, gs_nil, gs_cons, k_gs, s_asg, k_asg1, k_nx, s_expr, k_expr, s_ret, k_ret, s_iff, k_if, s_for, k_for, s_aug, s_pass, ss_nil, ss_cons, k_ss, bind_ok, bind_exc, bind_stuck, go_ok, go_exc, seq_nx, seq_rt, seq_exc, turn_nx, turn_rt, turn_exc, calm_ok', end_d, end_nx, end_exc, tru_bl, give, give_b, ders, der, arrD, List.getElem?_cons_zero, List.getElem?_cons_succ, List.set_cons_zero, List.set_cons_succ, if_true, if_false, Bool.false_eq_true, Bool.not_true, Bool.not_false, List.take_length, e_srtc, k_srtc, k_srt2, e_dnewT, e_dnewK, e_dget, k_dg1, e_dkeys, i_keys, e_setl, k_setl, e_isi, k_isi, e_rev, k_rev, e_tin, k_tinP, k_tinN, e_tget, k_tget, g_star, i_zip, is_int_non, is_int_bl, is_int_int, is_int_str, is_int_tup, is_int_lst, is_int_dct, is_str_non, is_str_bl, is_str_int, is_str_str, is_str_tup, is_str_lst, is_str_dct, is_bool_non, is_bool_bl, is_bool_int, is_bool_str, is_bool_tup, is_bool_lst, is_bool_dct, is_tuple_non, is_tuple_bl, is_tuple_int, is_tuple_str, is_tuple_tup, is_tuple_lst, is_tuple_dct, is_list_non, is_list_bl, is_list_int, is_list_str, is_list_tup, is_list_lst, is_list_dct, is_dict_non, is_dict_bl, is_dict_int, is_dict_str, is_dict_tup, is_dict_lst, is_dict_dct, bfD, len_s, len_l, len_t, c_eq_ii, c_ne_ii, c_lt_ii, c_le_ii, c_gt_ii, c_ge_ii, c_is_non, c_isn_non, noneD, Int.cast_ofNat_Int, Int.reduceEq, Int.reduceLT, Int.reduceLE, decide_true, decide_false, kTup, kLst, pures, sizeLine_eq, Nat.reduceLeDiff, g_tupq, idx_q0, idx_q1, is_tuple_q, len_q, k_ivq, e_xis, e_xfld, s_rais, k_rais1, k_rais2, s_try, cat_nx, cat_rt, cat_exc, out_rt, out_nx] $[$loc]?)
def isNumD : D → Bool
  | .int _ => true
  | _ => false
def isFrD : D → Bool
  | .tup [.int t, .int b] => decide (0 < b) && decide (Nat.gcd t.natAbs b.natAbs = 1)
  | _ => false
theorem isFrD_q (q : Rat) : isFrD (qD q) = true := by
  have h1 := q.den_pos
  have h2 := q.reduced
  have h3 : Nat.gcd q.num.natAbs q.den = 1 := h2
  simp [qD, isFrD, h1, h3]
theorem isFrD_iff {d : D} (h : isFrD d = true) : ∃ q : Rat, d = qD q := by
  unfold isFrD at h
  split at h
  · rename_i t b
    simp only [Bool.and_eq_true, decide_eq_true_eq] at h
    refine ⟨⟨t, b.toNat, by omega, ?_⟩, ?_⟩
    · have : b.toNat = b.natAbs := by omega
      rw [this]; exact h.2
    · simp only [qD, D.tup.injEq, List.cons.injEq, D.int.injEq, and_true, true_and]
      show b = ((b.toNat : Nat) : Int)
      omega
  · cases h
variable {t : Tbl} (T : Sub TC t) (k : Nat) (st : Sto)
include T
theorem is_number_ok (d : D) : Fn t (k + 1) 1 [.d d] st = .ok (.d (.bl (isNumD d))) st := by
  rw [fn_at T rfl]
  simp! only [runF, startE, I1]
  cases d <;> simp! only [isNumD]
theorem divisor_ok (x y : Nat) (hy : y < 2 ^ 100000000) : Fn t (k + 1) 2 [.d (.int x), .d (.int y)] st = .ok (.d (.int (Nat.gcd x y))) st := by
  rw [fn_at T rfl]
  simp! only [runF, startE, I2]
  rw [s_while]
  have := euclid (c := whC (Fn t k) I2c1) (b := evSs (Fn t k) I2b1) (mk := fun x y => [some (.d (.int x)), some (.d (.int y))]) (st := st)
    (fun x => by simp! only [wh_c, I2c1, truV, truD]; rfl) (fun x y h => by
      have : ((y : Int) != 0) = true := by simp; omega
      simp! only [wh_c, I2c1, truV, truD, this]) (fun x y h => by simp! only [I2b1, modN h]) 100000000 x y WF hy (by unfold WF; omega)
  rw [this]
  simp! only []
omit T in
theorem szB {n : Nat} {b : Nat} (h : b < 2 ^ n) (hn : n < 9000) : b < 2 ^ 100000000 := Nat.lt_of_lt_of_le h (Nat.pow_le_pow_right (by omega) (by omega))
theorem lowest_ok (top bottom : Int) {n : Nat} (hb : bottom ≠ 0) (hn : bottom.natAbs < 2 ^ n) (h9 : n < 9000) : Fn t (k + 2) 4 [.d (.int top), .d (.int bottom)] st = .ok (.d (qD (Rat.divInt top bottom))) st := by
  rw [fn_at T rfl]
  have hg0 : 0 < Nat.gcd top.natAbs bottom.natAbs := Nat.gcd_pos_of_pos_right _ (by omega)
  have hg1 : Nat.gcd top.natAbs bottom.natAbs ≤ bottom.natAbs := Nat.gcd_le_right _ (by omega)
  have hd1 : ((Nat.gcd top.natAbs bottom.natAbs : Nat) : Int) ∣ top := Int.ofNat_dvd_left.mpr (Nat.gcd_dvd_left _ _)
  have hd2 : ((Nat.gcd top.natAbs bottom.natAbs : Nat) : Int) ∣ bottom := Int.ofNat_dvd_left.mpr (Nat.gcd_dvd_right _ _)
  have hl : (Nat.gcd top.natAbs bottom.natAbs).log2 < 9000 := Nat.lt_of_le_of_lt (log2_le (Nat.lt_of_le_of_lt hg1 hn)) h9
  have e1 := Rat.num_divInt top bottom
  have e2 := Rat.den_divInt top bottom
  have e3 : bottom.gcd top = Nat.gcd top.natAbs bottom.natAbs := by rw [Int.gcd_comm]; rfl
  rw [e3] at e1 e2
  simp! only [runF, startE, I4, absI, divisor_ok T k st _ _ (szB hn h9)]
  generalize Nat.gcd top.natAbs bottom.natAbs = g at *
  by_cases hlt : bottom < 0
  · have f1 : binD .FloorDiv (.int top) (.int (-(g : Int))) = some (.int (Rat.divInt top bottom).num) := by
      simp only [binD]
      rw [if_pos ⟨by omega, by rw [Int.natAbs_neg, Int.natAbs_natCast]; exact .inl hl⟩, e1, Int.fdiv_eq_ediv_of_dvd (Int.neg_dvd.mpr hd1), Int.ediv_neg, Int.sign_eq_neg_one_of_neg hlt, Int.neg_one_mul, Int.neg_ediv_of_dvd hd1]
    have f2 : binD .FloorDiv (.int bottom) (.int (-(g : Int))) = some (.int (Rat.divInt top bottom).den) := by
      simp only [binD]
      rw [if_pos ⟨by omega, by rw [Int.natAbs_neg, Int.natAbs_natCast]; exact .inl hl⟩, e2, if_neg hb, Int.fdiv_eq_ediv_of_dvd (Int.neg_dvd.mpr hd2), Int.ediv_neg, Int.natCast_ediv, show ((bottom.natAbs : Nat) : Int) = -bottom by omega, Int.neg_ediv_of_dvd hd2]
    simp! only [hlt, f1, f2, qD]
  · have f1 : binD .FloorDiv (.int top) (.int (g : Int)) = some (.int (Rat.divInt top bottom).num) := by
      simp only [binD]
      rw [if_pos ⟨by omega, by rw [Int.natAbs_natCast]; exact .inl hl⟩, e1, Int.fdiv_eq_ediv_of_dvd hd1, Int.sign_eq_one_of_pos (by omega), Int.one_mul]
    have f2 : binD .FloorDiv (.int bottom) (.int (g : Int)) = some (.int (Rat.divInt top bottom).den) := by
      simp only [binD]
      rw [if_pos ⟨by omega, by rw [Int.natAbs_natCast]; exact .inl hl⟩, e2, if_neg hb, Int.fdiv_eq_ediv_of_dvd hd2, Int.natCast_ediv, show ((bottom.natAbs : Nat) : Int) = bottom by omega]
    simp! only [hlt, f1, f2, qD]
theorem fraction_ok (top bottom : Int) {n : Nat} (hb : bottom ≠ 0) (hn : bottom.natAbs < 2 ^ n) (h9 : n < 9000) : Fn t (k + 3) 5 [.d (.int top), .d (.int bottom)] st = .ok (.d (qD (Rat.divInt top bottom))) st := by
  rw [fn_at T rfl]
  simp! only [runF, startE, I5, is_number_ok T (k + 1), isNumD, hb, lowest_ok T k st top bottom hb hn h9]
omit T in
theorem Fit.den_ne {a : Rat} : (a.den : Int) ≠ 0 := by have := a.den_nz; omega
theorem is_fraction_ok (d : D) (h : ∀ t b, d = .tup [.int t, .int b] → b.natAbs < 2 ^ 100000000) : Fn t (k + 2) 3 [.d d] st = .ok (.d (.bl (isFrD d))) st := by
  rw [fn_at T rfl]
  cases d with
  | tup xs =>
    have hl : ∀ (en : En) (hi : 1 < en.length), lcLoop [] (lcG (Fn t (k + 1)) (.name 1)) (evT (Fn t (k + 1)) .nil) (evE (Fn t (k + 1)) I3e1) en xs [] st = .ok (.d (.lst (xs.map fun d => .bl (isNumD d)))) st := by
      intro en hi
      have := lc_enc (e := id) (f := fun d => .bl (isNumD d)) (g := lcG (Fn t (k + 1)) (.name 1)) (t := evT (Fn t (k + 1)) .nil) (el := evE (Fn t (k + 1)) I3e1) (en := en) (st := st) xs [] fun x hx => ⟨en.set 1 (some (.d x)), by simp only [lc_g, g_name, id], rfl, by simp! only [I3e1, List.getElem?_set_self hi, is_number_ok T k st x]⟩
      rw [List.map_id] at this
      exact this
    simp! only [runF, startE, I3]
    by_cases h2 : xs.length = 2
    · obtain ⟨a, b, rfl⟩ : ∃ a b, xs = [a, b] := by
        match xs, h2 with
        | [a, b], _ => exact ⟨a, b, rfl⟩
      simp! only [wipeE, hl _ (show 1 < [some (Vv.d (.tup [a, b])), none, none, none].length by simp), allD, bools]
      cases a <;> simp! only [isNumD, isFrD, List.all_cons, List.all_nil, Bool.false_and, id]
      cases b <;> simp! only [isNumD, isFrD, List.all_cons, List.all_nil, Bool.false_and, Bool.and_true, Bool.true_and, id]
      rename_i i j
      by_cases hj : 0 < j
      · obtain ⟨j, rfl⟩ : ∃ m : Nat, j = m := ⟨j.toNat, by omega⟩
        have hj2 := h i j rfl
        simp! only [hj, absI, divisor_ok T k st i.natAbs j hj2, Int.natAbs_natCast, Bool.true_and]
        congr 3
        rw [Bool.eq_iff_iff]
        simp only [decide_eq_true_eq]
        omega
      · simp! only [hj, Bool.false_and]
    · have e : isFrD (.tup xs) = false := by
        match xs, h2 with
        | [], _ => rfl
        | [_], _ => simp [isFrD]
        | _ :: _ :: _ :: _, _ => simp [isFrD]
      have h3 : ¬ ((xs.length : Int) = 2) := by omega
      simp! only [h3, e]
  | _ => simp! only [runF, startE, I3, isFrD]
theorem is_fraction_q {n : Nat} (q : Rat) (h : Fit n q) (h9 : n < 9000) : Fn t (k + 2) 3 [.d (qD q)] st = .ok (.d (.bl true)) st := by
  rw [is_fraction_ok T k st (qD q) (fun t b e => ?_), isFrD_q]
  simp only [qD, D.tup.injEq, List.cons.injEq, D.int.injEq, and_true] at e
  have := h.2
  have : b.natAbs = q.den := by omega
  rw [this]
  exact szB h.2 h9
theorem check_both_ok {n m : Nat} {a b : Rat} (ha : Fit n a) (hb : Fit m b) (h9 : n + m < 9000) : Fn t (k + 3) 6 [.d (qD a), .d (qD b)] st = .ok (.d .non) st := by
  rw [fn_at T rfl]
  simp! only [runF, startE, I6, I6b1, for_nil, for_cons, is_fraction_q T k st a ha (by omega), is_fraction_q T k st b hb (by omega)]
theorem plus_ok {n m : Nat} {a b : Rat} (ha : Fit n a) (hb : Fit m b) (h9 : n + m < 9000) : Fn t (k + 4) 7 [.d (qD a), .d (qD b)] st = .ok (.d (qD (a + b))) st := by
  rw [fn_at T rfl]
  have hd : (a.den * b.den : Int) ≠ 0 := Int.mul_ne_zero Fit.den_ne Fit.den_ne
  have e := lowest_ok T (k + 1) st (a.num * b.den + b.num * a.den) (a.den * b.den) (n := n + m) hd (by rw [Int.natAbs_mul, Nat.pow_add]; exact Nat.mul_lt_mul'' ha.2 hb.2) h9
  have e2 : Rat.divInt (a.num * b.den + b.num * a.den) (a.den * b.den) = a + b := by
    rw [Rat.add_def', ← Rat.divInt_ofNat, Int.natCast_mul]
  rw [e2] at e
  have m1 : binD .Mult (.int a.num) (.int b.den) = some (.int (a.num * b.den)) := mulI ha.1 (b := m) hb.2 (by omega)
  have m2 : binD .Mult (.int b.num) (.int a.den) = some (.int (b.num * a.den)) := mulI hb.1 (b := n) ha.2 (by omega)
  have m3 : binD .Mult (.int a.den) (.int b.den) = some (.int (a.den * b.den)) := mulI (a := n) ha.2 (b := m) hb.2 (by omega)
  simp! only [runF, startE, I7, check_both_ok T k st ha hb h9]
  simp! only [m1, m2, m3, addI, e]
theorem minus_ok {n m : Nat} {a b : Rat} (ha : Fit n a) (hb : Fit m b) (h9 : n + m < 9000) : Fn t (k + 4) 8 [.d (qD a), .d (qD b)] st = .ok (.d (qD (a - b))) st := by
  rw [fn_at T rfl]
  have hd : (a.den * b.den : Int) ≠ 0 := Int.mul_ne_zero Fit.den_ne Fit.den_ne
  have e := lowest_ok T (k + 1) st (a.num * b.den - b.num * a.den) (a.den * b.den) (n := n + m) hd (by rw [Int.natAbs_mul, Nat.pow_add]; exact Nat.mul_lt_mul'' ha.2 hb.2) h9
  have e2 : Rat.divInt (a.num * b.den - b.num * a.den) (a.den * b.den) = a - b := by
    rw [Rat.sub_def', ← Rat.divInt_ofNat, Int.natCast_mul]
  rw [e2] at e
  have m1 : binD .Mult (.int a.num) (.int b.den) = some (.int (a.num * b.den)) := mulI ha.1 (b := m) hb.2 (by omega)
  have m2 : binD .Mult (.int b.num) (.int a.den) = some (.int (b.num * a.den)) := mulI hb.1 (b := n) ha.2 (by omega)
  have m3 : binD .Mult (.int a.den) (.int b.den) = some (.int (a.den * b.den)) := mulI (a := n) ha.2 (b := m) hb.2 (by omega)
  simp! only [runF, startE, I8, check_both_ok T k st ha hb h9]
  simp! only [m1, m2, m3, subI, e]
omit T in
theorem at0 {a b : D} : idxD (.tup [a, b]) (.int 0) = some a := rfl
omit T in
theorem at1 {a b : D} : idxD (.tup [a, b]) (.int 1) = some b := rfl
theorem times_ok {n m : Nat} {a b : Rat} (ha : Fit n a) (hb : Fit m b) (h9 : n + m < 9000) : Fn t (k + 4) 9 [.d (qD a), .d (qD b)] st = .ok (.d (qD (a * b))) st := by
  rw [fn_at T rfl]
  have hd : (a.den * b.den : Int) ≠ 0 := Int.mul_ne_zero Fit.den_ne Fit.den_ne
  have e := lowest_ok T (k + 1) st (a.num * b.num) (a.den * b.den) (n := n + m) hd (by rw [Int.natAbs_mul, Nat.pow_add]; exact Nat.mul_lt_mul'' ha.2 hb.2) h9
  have e2 : Rat.divInt (a.num * b.num) (a.den * b.den) = a * b := by
    rw [Rat.mul_def', ← Rat.divInt_ofNat, Int.natCast_mul]
  rw [e2] at e
  have m1 : binD .Mult (.int a.num) (.int b.num) = some (.int (a.num * b.num)) := mulI ha.1 hb.1 (by omega)
  have m3 : binD .Mult (.int a.den) (.int b.den) = some (.int (a.den * b.den)) := mulI (a := n) ha.2 (b := m) hb.2 (by omega)
  simp! only [runF, startE, I9, check_both_ok T k st ha hb h9]
  simp! only [m1, m3, e]
theorem over_ok {n m : Nat} {a b : Rat} (ha : Fit n a) (hb : Fit m b) (h9 : n + m < 9000) (h0 : b ≠ 0) : Fn t (k + 4) 10 [.d (qD a), .d (qD b)] st = .ok (.d (qD (a / b))) st := by
  rw [fn_at T rfl]
  have hb0 : b.num ≠ 0 := fun z => h0 (Rat.num_eq_zero.mp z)
  have hd : (a.den * b.num : Int) ≠ 0 := Int.mul_ne_zero Fit.den_ne hb0
  have e := lowest_ok T (k + 1) st (a.num * b.den) (a.den * b.num) (n := n + m) hd (by rw [Int.natAbs_mul, Nat.pow_add]; exact Nat.mul_lt_mul'' ha.2 hb.1) h9
  have e2 : Rat.divInt (a.num * b.den) (a.den * b.num) = a / b := by
    rw [Rat.div_def, Rat.inv_def, ← Rat.divInt_mul_divInt, Rat.num_divInt_den]
  rw [e2] at e
  have m1 : binD .Mult (.int a.num) (.int b.den) = some (.int (a.num * b.den)) := mulI ha.1 (b := m) hb.2 (by omega)
  have m3 : binD .Mult (.int a.den) (.int b.num) = some (.int (a.den * b.num)) := mulI (a := n) ha.2 (b := m) hb.1 (by omega)
  simp! only [runF, startE, I10, check_both_ok T k st ha hb h9, qD_zero, c_eq_q, h0]
  simp! only [m1, m3, e]
theorem below_ok {n m : Nat} {a b : Rat} (ha : Fit n a) (hb : Fit m b) (h9 : n + m < 9000) : Fn t (k + 4) 11 [.d (qD a), .d (qD b)] st = .ok (.d (.bl (decide (a < b)))) st := by
  rw [fn_at T rfl]
  have m1 : binD .Mult (.int a.num) (.int b.den) = some (.int (a.num * b.den)) := mulI ha.1 (b := m) hb.2 (by omega)
  have m2 : binD .Mult (.int b.num) (.int a.den) = some (.int (b.num * a.den)) := mulI hb.1 (b := n) ha.2 (by omega)
  simp! only [runF, startE, I11, check_both_ok T k st ha hb h9]
  simp! only [m1, m2, ← Rat.lt_iff]
/-- the laws' own: lowest terms -/
theorem low_ok (top : Int) (bottom : Nat) {n : Nat} (hb : bottom ≠ 0) (hn : bottom < 2 ^ n) (h9 : n < 9000) : Fn t (k + 1) 15 [.d (.int top), .d (.int bottom)] st = .ok (.d (qD (mkRat top bottom))) st := by
  rw [fn_at T rfl]
  have hg0 : 0 < Nat.gcd top.natAbs bottom := Nat.gcd_pos_of_pos_right _ (by omega)
  have hg1 : Nat.gcd top.natAbs bottom ≤ bottom := Nat.gcd_le_right _ (by omega)
  have e1 := Rat.num_mkRat top bottom
  have e2 := Rat.den_mkRat top bottom
  rw [if_neg hb, Nat.gcd_comm] at e1 e2
  simp! only [runF, startE, I15, absI]
  rw [s_while]
  have := euclid (c := whC (Fn t k) I15c1) (b := evSs (Fn t k) I15b1) (mk := fun x y => [some (.d (.int top)), some (.d (.int bottom)), some (.d (.int x)), some (.d (.int y))]) (st := st)
    (fun x => by simp! only [wh_c, I15c1, Int.lt_irrefl]) (fun x y h => by
      have : (0 : Int) < y := by omega
      simp! only [wh_c, I15c1, this]) (fun x y h => by simp! only [I15b1, modN h]) 100000000 top.natAbs bottom WF (szB hn h9) (by unfold WF; omega)
  rw [this]
  have hgl : Nat.gcd top.natAbs bottom < 2 ^ n := by omega
  have f1 : binD .FloorDiv (.int top) (.int (Nat.gcd top.natAbs bottom)) = some (.int (mkRat top bottom).num) := by
    rw [fdiv_pos (j := (Nat.gcd top.natAbs bottom : Nat)) (b := n) (by omega) hgl h9, e1]
  have f2 : binD .FloorDiv (.int bottom) (.int (Nat.gcd top.natAbs bottom)) = some (.int (mkRat top bottom).den) := by
    rw [fdiv_pos (j := (Nat.gcd top.natAbs bottom : Nat)) (b := n) (by omega) hgl h9, e2, Int.natCast_ediv]
  simp! only [f1, f2, qD]
end TW
namespace TW
open PySem PySem.Spec PyProof.Rows L2
local macro_rules
  | `(tactic| simp! only [] $[$loc]?) => `(tactic| simp only [List.map_cons, List.map_nil, List.length_cons, List.length_nil, List.replicate, List.cons_append, List.nil_append, List.append_nil, Nat.reduceAdd, Nat.reduceSub, Nat.zero_add, e_var, e_con, e_bin, k_bin1, k_bin2, e_neg, k_neg, e_not, k_not, e_and, k_and, e_or, k_or, e_cmp, k_cmp1, k_cmp2, e_chain, k_ch1, k_ch2, e_ite, k_ite, e_call, k_call1, k_call2, e_blt, k_blt, e_meth, k_meth1, k_meth2, e_tup, e_lst, e_dct0, e_dcd, e_idx, k_idx1, k_idx2, e_slc, k_slc1, k_slc2, k_slc3, o_none, o_some, k_o, e_new, k_new, e_lc, k_lc, lc_g, es_nil, es_cons, k_es1, k_es2, t_nil, t_cons, k_t, i_val, i_range, i_enum, k_ent, k_enl, enumD, s_par, k_par, setAll, k_body, k_turn, k_ivl, k_ivt, k_ivs, g_name, g_tup, g_sub, k_sub1, gs_nil, gs_cons, k_gs, s_asg, k_asg1, k_nx, s_expr, k_expr, s_ret, k_ret, s_iff, k_if, s_for, k_for, s_aug, s_pass, ss_nil, ss_cons, k_ss, bind_ok, bind_exc, bind_stuck, go_ok, go_exc, seq_nx, seq_rt, seq_exc, turn_nx, turn_rt, turn_exc, calm_ok', end_d, end_nx, end_exc, tru_bl, give, give_b, ders, der, arrD, List.getElem?_cons_zero, List.getElem?_cons_succ, List.set_cons_zero, List.set_cons_succ, if_true, if_false, Bool.false_eq_true, Bool.not_true, Bool.not_false, List.take_length, e_srtc, k_srtc, k_srt2, e_dnewT, e_dnewK, e_dget, k_dg1, e_dkeys, i_keys, e_setl, k_setl, e_isi, k_isi, e_rev, k_rev, e_tin, k_tinP, k_tinN, e_tget, k_tget, g_star, i_zip, is_int_non, is_int_bl, is_int_int, is_int_str, is_int_tup, is_int_lst, is_int_dct, is_str_non, is_str_bl, is_str_int, is_str_str, is_str_tup, is_str_lst, is_str_dct, is_bool_non, is_bool_bl, is_bool_int, is_bool_str, is_bool_tup, is_bool_lst, is_bool_dct, is_tuple_non, is_tuple_bl, is_tuple_int, is_tuple_str, is_tuple_tup, is_tuple_lst, is_tuple_dct, is_list_non, is_list_bl, is_list_int, is_list_str, is_list_tup, is_list_lst, is_list_dct, is_dict_non, is_dict_bl, is_dict_int, is_dict_str, is_dict_tup, is_dict_lst, is_dict_dct, bfD, len_s, len_l, len_t, c_eq_ii, c_ne_ii, c_lt_ii, c_le_ii, c_gt_ii, c_ge_ii, c_is_non, c_isn_non, noneD, Int.cast_ofNat_Int, Int.reduceEq, Int.reduceLT, Int.reduceLE, decide_true, decide_false, kTup, kLst, pures, sizeLine_eq, Nat.reduceLeDiff, g_tupq, idx_q0, idx_q1, is_tuple_q, len_q, k_ivq, e_xis, e_xfld, s_rais, k_rais1, k_rais2, s_try, cat_nx, cat_rt, cat_exc, out_rt, out_nx] $[$loc]?)
  | `(tactic| simp! only [$ls,*] $[$loc]?) => `(tactic| simp only [$ls,*, List.map_cons, List.map_nil, List.length_cons, List.length_nil, List.replicate, List.cons_append, List.nil_append, List.append_nil, Nat.reduceAdd, Nat.reduceSub, Nat.zero_add, e_var, e_con, e_bin, k_bin1, k_bin2, e_neg, k_neg, e_not, k_not, e_and, k_and, e_or, k_or, e_cmp, k_cmp1, k_cmp2, e_chain, k_ch1, k_ch2, e_ite, k_ite, e_call, k_call1, k_call2, e_blt, k_blt, e_meth, k_meth1, k_meth2, e_tup, e_lst, e_dct0, e_dcd, e_idx, k_idx1, k_idx2, e_slc, k_slc1, k_slc2, k_slc3, o_none, o_some, k_o, e_new, k_new, e_lc, k_lc, lc_g, es_nil, es_cons, k_es1, k_es2, t_nil, t_cons, k_t, i_val, i_range, i_enum, k_ent, k_enl, enumD, s_par, k_par, setAll, k_body, k_turn, k_ivl, k_ivt, k_ivs, g_name, g_tup, g_sub, k_sub1, gs_nil, gs_cons, k_gs, s_asg, k_asg1, k_nx, s_expr, k_expr, s_ret, k_ret, s_iff, k_if, s_for, k_for, s_aug, s_pass, ss_nil, ss_cons, k_ss, bind_ok, bind_exc, bind_stuck, go_ok, go_exc, seq_nx, seq_rt, seq_exc, turn_nx, turn_rt, turn_exc, calm_ok', end_d, end_nx, end_exc, tru_bl, give, give_b, ders, der, arrD, List.getElem?_cons_zero, List.getElem?_cons_succ, List.set_cons_zero, List.set_cons_succ, if_true, if_false, Bool.false_eq_true, Bool.not_true, Bool.not_false, List.take_length, e_srtc, k_srtc, k_srt2, e_dnewT, e_dnewK, e_dget, k_dg1, e_dkeys, i_keys, e_setl, k_setl, e_isi, k_isi, e_rev, k_rev, e_tin, k_tinP, k_tinN, e_tget, k_tget, g_star, i_zip, is_int_non, is_int_bl, is_int_int, is_int_str, is_int_tup, is_int_lst, is_int_dct, is_str_non, is_str_bl, is_str_int, is_str_str, is_str_tup, is_str_lst, is_str_dct, is_bool_non, is_bool_bl, is_bool_int, is_bool_str, is_bool_tup, is_bool_lst, is_bool_dct, is_tuple_non, is_tuple_bl, is_tuple_int, is_tuple_str, is_tuple_tup, is_tuple_lst, is_tuple_dct, is_list_non, is_list_bl, is_list_int, is_list_str, is_list_tup, is_list_lst, is_list_dct, is_dict_non, is_dict_bl, is_dict_int, is_dict_str, is_dict_tup, is_dict_lst, is_dict_dct, bfD, len_s, len_l, len_t, c_eq_ii, c_ne_ii, c_lt_ii, c_le_ii, c_gt_ii, c_ge_ii, c_is_non, c_isn_non, noneD, Int.cast_ofNat_Int, Int.reduceEq, Int.reduceLT, Int.reduceLE, decide_true, decide_false, kTup, kLst, pures, sizeLine_eq, Nat.reduceLeDiff, g_tupq, idx_q0, idx_q1, is_tuple_q, len_q, k_ivq, e_xis, e_xfld, s_rais, k_rais1, k_rais2, s_try, cat_nx, cat_rt, cat_exc, out_rt, out_nx] $[$loc]?)
/-! ### the pool that every law draws by -/
def PoolO (p : MO) : Prop := ∃ s g c : Int, p = .lst [.int s, .int g, .int c] ∧ 0 ≤ s ∧ s < 2147483423 ∧ 0 ≤ g ∧ 0 ≤ c
def PoolAt (n : Nat) (st : Sto) : Prop := ∃ p, st[n]? = some p ∧ PoolO p
/-- only the pool at n was drawn from -/
def Drawn (n : Nat) (st st' : Sto) : Prop := ∃ p, PoolO p ∧ st' = st.set n p
theorem PoolAt.lt {n : Nat} {st : Sto} (h : PoolAt n st) : n < st.length := by
  obtain ⟨p, h, _⟩ := h
  exact (List.getElem?_eq_some_iff.mp h).1
theorem PoolAt.refl {n : Nat} {st : Sto} (h : PoolAt n st) : Drawn n st st := by
  obtain ⟨p, h, hp⟩ := h
  refine ⟨p, hp, ?_⟩
  obtain ⟨h1, h2⟩ := List.getElem?_eq_some_iff.mp h
  subst h2
  exact (List.set_getElem_self h1).symm
theorem Drawn.pool {n : Nat} {st st' : Sto} (d : Drawn n st st') (h : PoolAt n st) : PoolAt n st' := by
  obtain ⟨p, hp, rfl⟩ := d
  exact ⟨p, by rw [List.getElem?_set_self h.lt], hp⟩
theorem Drawn.trans {n : Nat} {a b c : Sto} (d : Drawn n a b) (e : Drawn n b c) : Drawn n a c := by
  obtain ⟨p, hp, rfl⟩ := d
  obtain ⟨q, hq, rfl⟩ := e
  exact ⟨q, hq, by rw [List.set_set]⟩
theorem Drawn.len {n : Nat} {a b : Sto} (d : Drawn n a b) : b.length = a.length := by
  obtain ⟨p, hp, rfl⟩ := d
  simp
theorem Drawn.other {n m : Nat} {a b : Sto} (d : Drawn n a b) (h : m ≠ n) : b[m]? = a[m]? := by
  obtain ⟨p, hp, rfl⟩ := d
  rw [List.getElem?_set_ne (Ne.symm h)]
theorem PoolAt.app {n : Nat} {st : Sto} (h : PoolAt n st) (l : Sto) : PoolAt n (st ++ l) := by
  have := h.lt
  obtain ⟨p, h, hp⟩ := h
  exact ⟨p, by rw [List.getElem?_append_left this, h], hp⟩
theorem Drawn.app {n : Nat} {st l st' : Sto} (d : Drawn n (st ++ l) st') (h : n < st.length) : ∃ st2, st' = st2 ++ l ∧ Drawn n st st2 := by
  obtain ⟨p, hp, rfl⟩ := d
  exact ⟨st.set n p, by rw [List.set_append_left _ _ h], p, hp, rfl⟩
theorem Drawn.take {n : Nat} {a b : Sto} (d : Drawn n a b) : b.take a.length = b := List.take_of_length_le (by rw [d.len]; exact Nat.le_refl _)
theorem end_ref (st : Sto) (o : MO) (m : Nat) (h : m = st.length) : endF m (.rt (.ref m) (st ++ [o])) = .ok (.ref m) (st ++ [o]) := by
  subst h
  simp only [endF, Nat.lt_irrefl, if_false]
theorem getL (n : Nat) (xs : List D) (y : D) (st : Sto) (h : st[n]? = some (.lst xs)) : kIdx2 (.ref n) (.d y) st = give (idxD (.lst xs) y) st := k_idx2r n xs y st h
theorem dmI {i j : Int} {b : Nat} (h : 0 < j) (h2 : j.natAbs < 2 ^ b) (hb : b < 9000) : dmD [.int i, .int j] = some (.tup [.int (i / j), .int (i % j)]) := by
  have := log2_le h2
  simp only [dmD]
  rw [if_pos ⟨h, by omega⟩]
variable {t : Tbl} (T : Sub TC t) (k : Nat) {st : Sto}
section
variable {n : Nat} (hn : n < st.length) (s g c : Int)
include hn
theorem pl_at : (st.set n (.lst [.int s, .int g, .int c]))[n]? = some (.lst [.int s, .int g, .int c]) := by rw [List.getElem?_set_self hn]
theorem pl_get0 : kIdx2 (.ref n) (.d (.int 0)) (st.set n (.lst [.int s, .int g, .int c])) = .ok (.d (.int s)) (st.set n (.lst [.int s, .int g, .int c])) := by rw [k_idx2r _ _ _ _ (pl_at hn s g c)]; rfl
theorem pl_get1 : kIdx2 (.ref n) (.d (.int 1)) (st.set n (.lst [.int s, .int g, .int c])) = .ok (.d (.int g)) (st.set n (.lst [.int s, .int g, .int c])) := by rw [k_idx2r _ _ _ _ (pl_at hn s g c)]; rfl
theorem pl_get2 : kIdx2 (.ref n) (.d (.int 2)) (st.set n (.lst [.int s, .int g, .int c])) = .ok (.d (.int c)) (st.set n (.lst [.int s, .int g, .int c])) := by rw [k_idx2r _ _ _ _ (pl_at hn s g c)]; rfl
theorem pl_put0 (v : Int) (en : En) : kSub2 (.d (.int v)) en (.ref n) (.d (.int 0)) (st.set n (.lst [.int s, .int g, .int c])) = .ok en (st.set n (.lst [.int v, .int g, .int c])) := by rw [k_sub2 _ _ _ _ _ _ 0 (pl_at hn s g c) rfl, List.set_set]; rfl
theorem pl_put1 (v : Int) (en : En) : kSub2 (.d (.int v)) en (.ref n) (.d (.int 1)) (st.set n (.lst [.int s, .int g, .int c])) = .ok en (st.set n (.lst [.int s, .int v, .int c])) := by rw [k_sub2 _ _ _ _ _ _ 1 (pl_at hn s g c) rfl, List.set_set]; rfl
theorem pl_put2 (v : Int) (en : En) : kSub2 (.d (.int v)) en (.ref n) (.d (.int 2)) (st.set n (.lst [.int s, .int g, .int c])) = .ok en (st.set n (.lst [.int s, .int g, .int v])) := by rw [k_sub2 _ _ _ _ _ _ 2 (pl_at hn s g c) rfl, List.set_set]; rfl
end
theorem take_set (st : Sto) (n : Nat) (o : MO) : (st.set n o).take st.length = st.set n o := List.take_of_length_le (by simp)
include T
theorem take_ok {n b : Nat} {many : Int} (P : PoolAt n st) (hm : 0 < many) (hm2 : many.natAbs < 2 ^ b) (hb : b < 9000) :
    ∃ (r : Nat) (st' : Sto), Fn t (k + 1) 14 [.ref n, .d (.int many)] st = .ok (.d (.int r)) st' ∧ Drawn n st st' ∧ (r : Int) < many := by
  have hn := P.lt
  obtain ⟨p, e, s, g, c, rfl, p1, p2, p3, p4⟩ := P
  obtain ⟨_, e2⟩ := List.getElem?_eq_some_iff.mp e
  have e3 : st = st.set n (.lst [.int s, .int g, .int c]) := by rw [← e2]; exact (List.set_getElem_self _).symm
  rw [fn_at T rfl]
  have e1 : binD .Mult (.int s) (.int (s % 45013 + 32017)) = some (.int (s * (s % 45013 + 32017))) := mulL (by omega)
  have e2 : binD .Mult (.int 90023) (.int (c + 1)) = some (.int (90023 * (c + 1))) := mulL (by decide)
  rw [e3]
  simp! only [runF, startE, I14, pl_get0 hn, pl_get1 hn, pl_get2 hn, pl_put0 hn, pl_put1 hn, pl_put2 hn, mod_pos (show (0 : Int) < 45013 by decide), mod_pos (show (0 : Int) < 2147483423 by decide), addI, e1, e2, List.length_set]
  have q1 := Int.emod_nonneg (s * (s % 45013 + 32017) + 90023 * (c + 1)) (show (2147483423 : Int) ≠ 0 by decide)
  have q2 := Int.emod_lt_of_pos (s * (s % 45013 + 32017) + 90023 * (c + 1)) (show (0 : Int) < 2147483423 by decide)
  generalize (s * (s % 45013 + 32017) + 90023 * (c + 1)) % 2147483423 = s' at q1 q2 ⊢
  by_cases hg : 0 < g
  · simp! only [hg, pl_get1 hn, dmI hm hm2 hb, pl_put1 hn, take_set]
    have r0 := Int.emod_nonneg g (show many ≠ 0 by omega)
    have r1 := Int.emod_lt_of_pos g hm
    exact ⟨(g % many).toNat, _, by rw [Int.toNat_of_nonneg r0], ⟨_, ⟨s', g / many, c + 1, rfl, q1, q2, Int.ediv_nonneg p3 (by omega), by omega⟩, by rw [List.set_set]⟩, by omega⟩
  · simp! only [hg, pl_get0 hn, fdiv_pos (i := s') (show (0 : Int) < 64 by decide) (show (64 : Int).natAbs < 2 ^ 10 by decide) (by decide), mod_pos hm, take_set]
    have r0 := Int.emod_nonneg (s' / 64) (show many ≠ 0 by omega)
    have r1 := Int.emod_lt_of_pos (s' / 64) hm
    exact ⟨(s' / 64 % many).toNat, _, by rw [Int.toNat_of_nonneg r0], ⟨_, ⟨s', g, c + 1, rfl, q1, q2, p3, by omega⟩, by rw [List.set_set]⟩, by omega⟩
omit T in
theorem cell_loop {F : Fs} {a b : Option Vv} : ∀ (ns : List Int) (s : Int) (c : Option Vv), 0 ≤ s → s < 2147483423 → ∃ s' c', 0 ≤ s' ∧ s' < 2147483423 ∧ forLoop [] (lcG F (.name 3)) (evSs F I12b1) (ns.map D.int) [a, b, some (.d (.int s)), c] st = .nx [a, b, some (.d (.int s')), c'] st
  | [], s, c, h0, h1 => ⟨s, c, h0, h1, rfl⟩
  | x :: ns, s, c, h0, h1 => by
    have e1 : binD .Mult (.int s) (.int 38011) = some (.int (s * 38011)) := mulR (by decide)
    obtain ⟨s', c', q0, q1, q2⟩ := cell_loop (F := F) (a := a) (b := b) ns ((s * 38011 + x) % 2147483423) (some (.d (.int x))) (Int.emod_nonneg _ (by decide)) (Int.emod_lt_of_pos _ (by decide))
    refine ⟨s', c', q0, q1, ?_⟩
    simp! only [I12b1, for_cons, e1, addI, mod_pos (show (0 : Int) < 2147483423 by decide)]
    exact q2
theorem cell_ok {ns : List Int} {i : Nat} (hk : i < 2 ^ 60) : ∃ v, Fn t (k + 1) 12 [.d (.lst (ns.map D.int)), .d (.int i)] st = .ok (.d (.int v)) st := by
  rw [fn_at T rfl]
  simp! only [runF, startE, I12, List.length_map]
  by_cases h : (i : Int) < ns.length
  · simp! only [h, idxD]
    have hk' : i < ns.length := by omega
    have : L2.atI (ns.map D.int) (i : Int) = some (.int ns[i]) := by
      rw [atI_nat (v := .int ns[i]) (by rw [List.getElem?_map, List.getElem?_eq_getElem hk']; rfl)]
    rw [this]
    exact ⟨ns[i], by simp! only []⟩
  · have e1 : binD .Mult (.int i) (.int i) = some (.int (i * i)) := mulL (by omega)
    have e2 : binD .Mult (.int 7) (.int i) = some (.int (7 * i)) := mulL (by decide)
    have e3 : binD .Mult (.int 70003) (.int (i * i + 7 * i + 5)) = some (.int (70003 * (i * i + 7 * i + 5))) := mulL (by decide)
    simp! only [h, e1, e2, e3, addI, mod_pos (show (0 : Int) < 2147483423 by decide), slcD]
    have hc : cutD (ns.map D.int) none (some 3) = (ns.take 3).map D.int := by
      unfold cutD
      rw [HT.sIx_none, show (HT.sIx (ns.map D.int).length (ns.map D.int).length (some 3)) = min 3 (ns.map D.int).length from HT.sIx_nat _ _ 3]
      simp only [List.drop_zero, Nat.sub_zero, List.length_map]
      rw [List.map_take]
      rw [List.take_eq_take_iff]
      simp
    rw [hc]
    obtain ⟨s', c', q0, q1, q2⟩ := cell_loop (F := Fn t k) (st := st) (a := some (.d (.lst (ns.map D.int)))) (b := some (.d (.int i))) (ns.take 3) ((70003 * ((i : Int) * i + 7 * i + 5)) % 2147483423) none (Int.emod_nonneg _ (by decide)) (Int.emod_lt_of_pos _ (by decide))
    rw [q2]
    exact ⟨s', by simp! only []⟩
omit T in
theorem powI {i : Int} {j : Nat} (h : i.natAbs < 18446744073709551616) (hj : j ≤ 1000000) : binD .Pow (.int i) (.int j) = some (.int (i ^ j)) := by
  simp only [binD]
  rw [if_pos ⟨by omega, by omega, by simpa using h⟩]
  rfl
theorem pool_ok (v : Int) : ∃ p, Fn t (k + 1) 13 [.d (.int v)] st = .ok (.ref st.length) (st ++ [p]) ∧ PoolO p := by
  rw [fn_at T rfl]
  have q0 := Int.emod_nonneg v (show (2147483423 : Int) ≠ 0 by decide)
  have q1 := Int.emod_lt_of_pos v (show (0 : Int) < 2147483423 by decide)
  have e : binD .Pow (.int 10) (.int 18) = some (.int 1000000000000000000) := powI (j := 18) (by decide) (by decide)
  by_cases h : v < 0
  · simp! only [runF, startE, I13, h, absI, mod_pos (show (0 : Int) < 2147483423 by decide), end_ref]
    exact ⟨_, rfl, _, _, _, rfl, q0, q1, by omega, by omega⟩
  · by_cases h2 : (1000000000000000000 : Int) ≤ v
    · simp! only [runF, startE, I13, h, h2, absI, mod_pos (show (0 : Int) < 2147483423 by decide), end_ref, e]
      exact ⟨_, rfl, _, _, _, rfl, q0, q1, by omega, by omega⟩
    · simp! only [runF, startE, I13, h, h2, absI, mod_pos (show (0 : Int) < 2147483423 by decide), end_ref, e]
      exact ⟨_, rfl, _, _, _, rfl, q0, q1, by omega, by omega⟩
omit T in
theorem pool_at {p : MO} (h : PoolO p) : PoolAt st.length (st ++ [p]) := ⟨p, by simp, h⟩
end TW
namespace TW
open PySem PySem.Spec PyProof.Rows L2
/-! _law_sort -/
def I101 : Ss := (.cons (.asg (.name 1) (.lst (.cons (.xis (.var 0) [(⟨#[78, 111, 78, 117, 109, 98, 101, 114]⟩, true), (⟨#[78, 111, 68, 101, 101, 100]⟩, false), (⟨#[78, 111, 66, 111, 111, 107]⟩, false), (⟨#[78, 111, 87, 101, 98]⟩, false), (⟨#[78, 111, 78, 97, 109, 101, 115]⟩, false), (⟨#[78, 111, 65, 109, 111, 117, 110, 116]⟩, false), (⟨#[78, 111, 77, 97, 110, 121]⟩, false), (⟨#[78, 111, 84, 101, 120, 116]⟩, false), (⟨#[78, 111, 82, 111, 119]⟩, false), (⟨#[78, 111, 78, 97, 109, 101]⟩, false), (⟨#[78, 111, 76, 111, 116]⟩, false), (⟨#[78, 111, 80, 108, 97, 99, 101]⟩, false), (⟨#[78, 111, 66, 97, 99, 107]⟩, false), (⟨#[70, 97, 105, 108, 115]⟩, false), (⟨#[78, 111, 77, 97, 116, 101, 115]⟩, false), (⟨#[84, 111, 111, 77, 97, 110, 121]⟩, false)]) (.cons (.xis (.var 0) [(⟨#[78, 111, 78, 117, 109, 98, 101, 114]⟩, false), (⟨#[78, 111, 68, 101, 101, 100]⟩, true), (⟨#[78, 111, 66, 111, 111, 107]⟩, false), (⟨#[78, 111, 87, 101, 98]⟩, false), (⟨#[78, 111, 78, 97, 109, 101, 115]⟩, false), (⟨#[78, 111, 65, 109, 111, 117, 110, 116]⟩, false), (⟨#[78, 111, 77, 97, 110, 121]⟩, false), (⟨#[78, 111, 84, 101, 120, 116]⟩, false), (⟨#[78, 111, 82, 111, 119]⟩, false), (⟨#[78, 111, 78, 97, 109, 101]⟩, false), (⟨#[78, 111, 76, 111, 116]⟩, false), (⟨#[78, 111, 80, 108, 97, 99, 101]⟩, false), (⟨#[78, 111, 66, 97, 99, 107]⟩, false), (⟨#[70, 97, 105, 108, 115]⟩, false), (⟨#[78, 111, 77, 97, 116, 101, 115]⟩, false), (⟨#[84, 111, 111, 77, 97, 110, 121]⟩, false)]) (.cons (.xis (.var 0) [(⟨#[78, 111, 78, 117, 109, 98, 101, 114]⟩, false), (⟨#[78, 111, 68, 101, 101, 100]⟩, false), (⟨#[78, 111, 66, 111, 111, 107]⟩, true), (⟨#[78, 111, 87, 101, 98]⟩, false), (⟨#[78, 111, 78, 97, 109, 101, 115]⟩, false), (⟨#[78, 111, 65, 109, 111, 117, 110, 116]⟩, false), (⟨#[78, 111, 77, 97, 110, 121]⟩, false), (⟨#[78, 111, 84, 101, 120, 116]⟩, false), (⟨#[78, 111, 82, 111, 119]⟩, false), (⟨#[78, 111, 78, 97, 109, 101]⟩, false), (⟨#[78, 111, 76, 111, 116]⟩, false), (⟨#[78, 111, 80, 108, 97, 99, 101]⟩, false), (⟨#[78, 111, 66, 97, 99, 107]⟩, false), (⟨#[70, 97, 105, 108, 115]⟩, false), (⟨#[78, 111, 77, 97, 116, 101, 115]⟩, false), (⟨#[84, 111, 111, 77, 97, 110, 121]⟩, false)]) .nil))))) (.cons (.asg (.name 1) (.bin .Add (.var 1) (.lst (.cons (.xis (.var 0) [(⟨#[78, 111, 78, 117, 109, 98, 101, 114]⟩, false), (⟨#[78, 111, 68, 101, 101, 100]⟩, false), (⟨#[78, 111, 66, 111, 111, 107]⟩, false), (⟨#[78, 111, 87, 101, 98]⟩, true), (⟨#[78, 111, 78, 97, 109, 101, 115]⟩, false), (⟨#[78, 111, 65, 109, 111, 117, 110, 116]⟩, false), (⟨#[78, 111, 77, 97, 110, 121]⟩, false), (⟨#[78, 111, 84, 101, 120, 116]⟩, false), (⟨#[78, 111, 82, 111, 119]⟩, false), (⟨#[78, 111, 78, 97, 109, 101]⟩, false), (⟨#[78, 111, 76, 111, 116]⟩, false), (⟨#[78, 111, 80, 108, 97, 99, 101]⟩, false), (⟨#[78, 111, 66, 97, 99, 107]⟩, false), (⟨#[70, 97, 105, 108, 115]⟩, false), (⟨#[78, 111, 77, 97, 116, 101, 115]⟩, false), (⟨#[84, 111, 111, 77, 97, 110, 121]⟩, false)]) .nil)))) (.cons (.asg (.name 1) (.bin .Add (.var 1) (.lst (.cons (.xis (.var 0) [(⟨#[78, 111, 78, 117, 109, 98, 101, 114]⟩, false), (⟨#[78, 111, 68, 101, 101, 100]⟩, false), (⟨#[78, 111, 66, 111, 111, 107]⟩, false), (⟨#[78, 111, 87, 101, 98]⟩, false), (⟨#[78, 111, 78, 97, 109, 101, 115]⟩, true), (⟨#[78, 111, 65, 109, 111, 117, 110, 116]⟩, false), (⟨#[78, 111, 77, 97, 110, 121]⟩, false), (⟨#[78, 111, 84, 101, 120, 116]⟩, false), (⟨#[78, 111, 82, 111, 119]⟩, false), (⟨#[78, 111, 78, 97, 109, 101]⟩, false), (⟨#[78, 111, 76, 111, 116]⟩, false), (⟨#[78, 111, 80, 108, 97, 99, 101]⟩, false), (⟨#[78, 111, 66, 97, 99, 107]⟩, false), (⟨#[70, 97, 105, 108, 115]⟩, false), (⟨#[78, 111, 77, 97, 116, 101, 115]⟩, false), (⟨#[84, 111, 111, 77, 97, 110, 121]⟩, false)]) (.cons (.xis (.var 0) [(⟨#[78, 111, 78, 117, 109, 98, 101, 114]⟩, false), (⟨#[78, 111, 68, 101, 101, 100]⟩, false), (⟨#[78, 111, 66, 111, 111, 107]⟩, false), (⟨#[78, 111, 87, 101, 98]⟩, false), (⟨#[78, 111, 78, 97, 109, 101, 115]⟩, false), (⟨#[78, 111, 65, 109, 111, 117, 110, 116]⟩, true), (⟨#[78, 111, 77, 97, 110, 121]⟩, false), (⟨#[78, 111, 84, 101, 120, 116]⟩, false), (⟨#[78, 111, 82, 111, 119]⟩, false), (⟨#[78, 111, 78, 97, 109, 101]⟩, false), (⟨#[78, 111, 76, 111, 116]⟩, false), (⟨#[78, 111, 80, 108, 97, 99, 101]⟩, false), (⟨#[78, 111, 66, 97, 99, 107]⟩, false), (⟨#[70, 97, 105, 108, 115]⟩, false), (⟨#[78, 111, 77, 97, 116, 101, 115]⟩, false), (⟨#[84, 111, 111, 77, 97, 110, 121]⟩, false)]) (.cons (.xis (.var 0) [(⟨#[78, 111, 78, 117, 109, 98, 101, 114]⟩, false), (⟨#[78, 111, 68, 101, 101, 100]⟩, false), (⟨#[78, 111, 66, 111, 111, 107]⟩, false), (⟨#[78, 111, 87, 101, 98]⟩, false), (⟨#[78, 111, 78, 97, 109, 101, 115]⟩, false), (⟨#[78, 111, 65, 109, 111, 117, 110, 116]⟩, false), (⟨#[78, 111, 77, 97, 110, 121]⟩, true), (⟨#[78, 111, 84, 101, 120, 116]⟩, false), (⟨#[78, 111, 82, 111, 119]⟩, false), (⟨#[78, 111, 78, 97, 109, 101]⟩, false), (⟨#[78, 111, 76, 111, 116]⟩, false), (⟨#[78, 111, 80, 108, 97, 99, 101]⟩, false), (⟨#[78, 111, 66, 97, 99, 107]⟩, false), (⟨#[70, 97, 105, 108, 115]⟩, false), (⟨#[78, 111, 77, 97, 116, 101, 115]⟩, false), (⟨#[84, 111, 111, 77, 97, 110, 121]⟩, false)]) .nil)))))) (.cons (.asg (.name 1) (.bin .Add (.var 1) (.lst (.cons (.xis (.var 0) [(⟨#[78, 111, 78, 117, 109, 98, 101, 114]⟩, false), (⟨#[78, 111, 68, 101, 101, 100]⟩, false), (⟨#[78, 111, 66, 111, 111, 107]⟩, false), (⟨#[78, 111, 87, 101, 98]⟩, false), (⟨#[78, 111, 78, 97, 109, 101, 115]⟩, false), (⟨#[78, 111, 65, 109, 111, 117, 110, 116]⟩, false), (⟨#[78, 111, 77, 97, 110, 121]⟩, false), (⟨#[78, 111, 84, 101, 120, 116]⟩, true), (⟨#[78, 111, 82, 111, 119]⟩, false), (⟨#[78, 111, 78, 97, 109, 101]⟩, false), (⟨#[78, 111, 76, 111, 116]⟩, false), (⟨#[78, 111, 80, 108, 97, 99, 101]⟩, false), (⟨#[78, 111, 66, 97, 99, 107]⟩, false), (⟨#[70, 97, 105, 108, 115]⟩, false), (⟨#[78, 111, 77, 97, 116, 101, 115]⟩, false), (⟨#[84, 111, 111, 77, 97, 110, 121]⟩, false)]) .nil)))) (.cons (.asg (.name 1) (.bin .Add (.var 1) (.lst (.cons (.xis (.var 0) [(⟨#[78, 111, 78, 117, 109, 98, 101, 114]⟩, false), (⟨#[78, 111, 68, 101, 101, 100]⟩, false), (⟨#[78, 111, 66, 111, 111, 107]⟩, false), (⟨#[78, 111, 87, 101, 98]⟩, false), (⟨#[78, 111, 78, 97, 109, 101, 115]⟩, false), (⟨#[78, 111, 65, 109, 111, 117, 110, 116]⟩, false), (⟨#[78, 111, 77, 97, 110, 121]⟩, false), (⟨#[78, 111, 84, 101, 120, 116]⟩, false), (⟨#[78, 111, 82, 111, 119]⟩, true), (⟨#[78, 111, 78, 97, 109, 101]⟩, false), (⟨#[78, 111, 76, 111, 116]⟩, false), (⟨#[78, 111, 80, 108, 97, 99, 101]⟩, false), (⟨#[78, 111, 66, 97, 99, 107]⟩, false), (⟨#[70, 97, 105, 108, 115]⟩, false), (⟨#[78, 111, 77, 97, 116, 101, 115]⟩, false), (⟨#[84, 111, 111, 77, 97, 110, 121]⟩, false)]) (.cons (.xis (.var 0) [(⟨#[78, 111, 78, 117, 109, 98, 101, 114]⟩, false), (⟨#[78, 111, 68, 101, 101, 100]⟩, false), (⟨#[78, 111, 66, 111, 111, 107]⟩, false), (⟨#[78, 111, 87, 101, 98]⟩, false), (⟨#[78, 111, 78, 97, 109, 101, 115]⟩, false), (⟨#[78, 111, 65, 109, 111, 117, 110, 116]⟩, false), (⟨#[78, 111, 77, 97, 110, 121]⟩, false), (⟨#[78, 111, 84, 101, 120, 116]⟩, false), (⟨#[78, 111, 82, 111, 119]⟩, false), (⟨#[78, 111, 78, 97, 109, 101]⟩, true), (⟨#[78, 111, 76, 111, 116]⟩, false), (⟨#[78, 111, 80, 108, 97, 99, 101]⟩, false), (⟨#[78, 111, 66, 97, 99, 107]⟩, false), (⟨#[70, 97, 105, 108, 115]⟩, false), (⟨#[78, 111, 77, 97, 116, 101, 115]⟩, false), (⟨#[84, 111, 111, 77, 97, 110, 121]⟩, false)]) (.cons (.xis (.var 0) [(⟨#[78, 111, 78, 117, 109, 98, 101, 114]⟩, false), (⟨#[78, 111, 68, 101, 101, 100]⟩, false), (⟨#[78, 111, 66, 111, 111, 107]⟩, false), (⟨#[78, 111, 87, 101, 98]⟩, false), (⟨#[78, 111, 78, 97, 109, 101, 115]⟩, false), (⟨#[78, 111, 65, 109, 111, 117, 110, 116]⟩, false), (⟨#[78, 111, 77, 97, 110, 121]⟩, false), (⟨#[78, 111, 84, 101, 120, 116]⟩, false), (⟨#[78, 111, 82, 111, 119]⟩, false), (⟨#[78, 111, 78, 97, 109, 101]⟩, false), (⟨#[78, 111, 76, 111, 116]⟩, true), (⟨#[78, 111, 80, 108, 97, 99, 101]⟩, false), (⟨#[78, 111, 66, 97, 99, 107]⟩, false), (⟨#[70, 97, 105, 108, 115]⟩, false), (⟨#[78, 111, 77, 97, 116, 101, 115]⟩, false), (⟨#[84, 111, 111, 77, 97, 110, 121]⟩, false)]) .nil)))))) (.cons (.asg (.name 1) (.bin .Add (.var 1) (.lst (.cons (.xis (.var 0) [(⟨#[78, 111, 78, 117, 109, 98, 101, 114]⟩, false), (⟨#[78, 111, 68, 101, 101, 100]⟩, false), (⟨#[78, 111, 66, 111, 111, 107]⟩, false), (⟨#[78, 111, 87, 101, 98]⟩, false), (⟨#[78, 111, 78, 97, 109, 101, 115]⟩, false), (⟨#[78, 111, 65, 109, 111, 117, 110, 116]⟩, false), (⟨#[78, 111, 77, 97, 110, 121]⟩, false), (⟨#[78, 111, 84, 101, 120, 116]⟩, false), (⟨#[78, 111, 82, 111, 119]⟩, false), (⟨#[78, 111, 78, 97, 109, 101]⟩, false), (⟨#[78, 111, 76, 111, 116]⟩, false), (⟨#[78, 111, 80, 108, 97, 99, 101]⟩, true), (⟨#[78, 111, 66, 97, 99, 107]⟩, false), (⟨#[70, 97, 105, 108, 115]⟩, false), (⟨#[78, 111, 77, 97, 116, 101, 115]⟩, false), (⟨#[84, 111, 111, 77, 97, 110, 121]⟩, false)]) .nil)))) (.cons (.asg (.name 1) (.bin .Add (.var 1) (.lst (.cons (.xis (.var 0) [(⟨#[78, 111, 78, 117, 109, 98, 101, 114]⟩, false), (⟨#[78, 111, 68, 101, 101, 100]⟩, false), (⟨#[78, 111, 66, 111, 111, 107]⟩, false), (⟨#[78, 111, 87, 101, 98]⟩, false), (⟨#[78, 111, 78, 97, 109, 101, 115]⟩, false), (⟨#[78, 111, 65, 109, 111, 117, 110, 116]⟩, false), (⟨#[78, 111, 77, 97, 110, 121]⟩, false), (⟨#[78, 111, 84, 101, 120, 116]⟩, false), (⟨#[78, 111, 82, 111, 119]⟩, false), (⟨#[78, 111, 78, 97, 109, 101]⟩, false), (⟨#[78, 111, 76, 111, 116]⟩, false), (⟨#[78, 111, 80, 108, 97, 99, 101]⟩, false), (⟨#[78, 111, 66, 97, 99, 107]⟩, true), (⟨#[70, 97, 105, 108, 115]⟩, false), (⟨#[78, 111, 77, 97, 116, 101, 115]⟩, false), (⟨#[84, 111, 111, 77, 97, 110, 121]⟩, false)]) (.cons (.xis (.var 0) [(⟨#[78, 111, 78, 117, 109, 98, 101, 114]⟩, false), (⟨#[78, 111, 68, 101, 101, 100]⟩, false), (⟨#[78, 111, 66, 111, 111, 107]⟩, false), (⟨#[78, 111, 87, 101, 98]⟩, false), (⟨#[78, 111, 78, 97, 109, 101, 115]⟩, false), (⟨#[78, 111, 65, 109, 111, 117, 110, 116]⟩, false), (⟨#[78, 111, 77, 97, 110, 121]⟩, false), (⟨#[78, 111, 84, 101, 120, 116]⟩, false), (⟨#[78, 111, 82, 111, 119]⟩, false), (⟨#[78, 111, 78, 97, 109, 101]⟩, false), (⟨#[78, 111, 76, 111, 116]⟩, false), (⟨#[78, 111, 80, 108, 97, 99, 101]⟩, false), (⟨#[78, 111, 66, 97, 99, 107]⟩, false), (⟨#[70, 97, 105, 108, 115]⟩, true), (⟨#[78, 111, 77, 97, 116, 101, 115]⟩, false), (⟨#[84, 111, 111, 77, 97, 110, 121]⟩, false)]) (.cons (.xis (.var 0) [(⟨#[78, 111, 78, 117, 109, 98, 101, 114]⟩, false), (⟨#[78, 111, 68, 101, 101, 100]⟩, false), (⟨#[78, 111, 66, 111, 111, 107]⟩, false), (⟨#[78, 111, 87, 101, 98]⟩, false), (⟨#[78, 111, 78, 97, 109, 101, 115]⟩, false), (⟨#[78, 111, 65, 109, 111, 117, 110, 116]⟩, false), (⟨#[78, 111, 77, 97, 110, 121]⟩, false), (⟨#[78, 111, 84, 101, 120, 116]⟩, false), (⟨#[78, 111, 82, 111, 119]⟩, false), (⟨#[78, 111, 78, 97, 109, 101]⟩, false), (⟨#[78, 111, 76, 111, 116]⟩, false), (⟨#[78, 111, 80, 108, 97, 99, 101]⟩, false), (⟨#[78, 111, 66, 97, 99, 107]⟩, false), (⟨#[70, 97, 105, 108, 115]⟩, false), (⟨#[78, 111, 77, 97, 116, 101, 115]⟩, true), (⟨#[84, 111, 111, 77, 97, 110, 121]⟩, false)]) .nil)))))) (.cons (.asg (.name 1) (.bin .Add (.var 1) (.lst (.cons (.xis (.var 0) [(⟨#[78, 111, 78, 117, 109, 98, 101, 114]⟩, false), (⟨#[78, 111, 68, 101, 101, 100]⟩, false), (⟨#[78, 111, 66, 111, 111, 107]⟩, false), (⟨#[78, 111, 87, 101, 98]⟩, false), (⟨#[78, 111, 78, 97, 109, 101, 115]⟩, false), (⟨#[78, 111, 65, 109, 111, 117, 110, 116]⟩, false), (⟨#[78, 111, 77, 97, 110, 121]⟩, false), (⟨#[78, 111, 84, 101, 120, 116]⟩, false), (⟨#[78, 111, 82, 111, 119]⟩, false), (⟨#[78, 111, 78, 97, 109, 101]⟩, false), (⟨#[78, 111, 76, 111, 116]⟩, false), (⟨#[78, 111, 80, 108, 97, 99, 101]⟩, false), (⟨#[78, 111, 66, 97, 99, 107]⟩, false), (⟨#[70, 97, 105, 108, 115]⟩, false), (⟨#[78, 111, 77, 97, 116, 101, 115]⟩, false), (⟨#[84, 111, 111, 77, 97, 110, 121]⟩, true)]) .nil)))) (.cons (.asg (.name 2) (.lst (.cons (.xis (.var 0) [(⟨#[78, 111, 78, 117, 109, 98, 101, 114]⟩, true), (⟨#[78, 111, 68, 101, 101, 100]⟩, true), (⟨#[78, 111, 66, 111, 111, 107]⟩, true), (⟨#[78, 111, 87, 101, 98]⟩, true), (⟨#[78, 111, 78, 97, 109, 101, 115]⟩, true), (⟨#[78, 111, 65, 109, 111, 117, 110, 116]⟩, true), (⟨#[78, 111, 77, 97, 110, 121]⟩, true), (⟨#[78, 111, 84, 101, 120, 116]⟩, true), (⟨#[78, 111, 82, 111, 119]⟩, true), (⟨#[78, 111, 78, 97, 109, 101]⟩, false), (⟨#[78, 111, 76, 111, 116]⟩, false), (⟨#[78, 111, 80, 108, 97, 99, 101]⟩, false), (⟨#[78, 111, 66, 97, 99, 107]⟩, false), (⟨#[70, 97, 105, 108, 115]⟩, false), (⟨#[78, 111, 77, 97, 116, 101, 115]⟩, false), (⟨#[84, 111, 111, 77, 97, 110, 121]⟩, false)]) (.cons (.xis (.var 0) [(⟨#[78, 111, 78, 117, 109, 98, 101, 114]⟩, false), (⟨#[78, 111, 68, 101, 101, 100]⟩, false), (⟨#[78, 111, 66, 111, 111, 107]⟩, false), (⟨#[78, 111, 87, 101, 98]⟩, false), (⟨#[78, 111, 78, 97, 109, 101, 115]⟩, false), (⟨#[78, 111, 65, 109, 111, 117, 110, 116]⟩, false), (⟨#[78, 111, 77, 97, 110, 121]⟩, false), (⟨#[78, 111, 84, 101, 120, 116]⟩, false), (⟨#[78, 111, 82, 111, 119]⟩, false), (⟨#[78, 111, 78, 97, 109, 101]⟩, true), (⟨#[78, 111, 76, 111, 116]⟩, true), (⟨#[78, 111, 80, 108, 97, 99, 101]⟩, true), (⟨#[78, 111, 66, 97, 99, 107]⟩, true), (⟨#[70, 97, 105, 108, 115]⟩, false), (⟨#[78, 111, 77, 97, 116, 101, 115]⟩, false), (⟨#[84, 111, 111, 77, 97, 110, 121]⟩, false)]) (.cons (.xis (.var 0) [(⟨#[78, 111, 78, 117, 109, 98, 101, 114]⟩, false), (⟨#[78, 111, 68, 101, 101, 100]⟩, false), (⟨#[78, 111, 66, 111, 111, 107]⟩, false), (⟨#[78, 111, 87, 101, 98]⟩, false), (⟨#[78, 111, 78, 97, 109, 101, 115]⟩, false), (⟨#[78, 111, 65, 109, 111, 117, 110, 116]⟩, false), (⟨#[78, 111, 77, 97, 110, 121]⟩, false), (⟨#[78, 111, 84, 101, 120, 116]⟩, false), (⟨#[78, 111, 82, 111, 119]⟩, false), (⟨#[78, 111, 78, 97, 109, 101]⟩, false), (⟨#[78, 111, 76, 111, 116]⟩, false), (⟨#[78, 111, 80, 108, 97, 99, 101]⟩, false), (⟨#[78, 111, 66, 97, 99, 107]⟩, false), (⟨#[70, 97, 105, 108, 115]⟩, true), (⟨#[78, 111, 77, 97, 116, 101, 115]⟩, true), (⟨#[84, 111, 111, 77, 97, 110, 121]⟩, true)]) .nil))))) (.cons (.asg (.name 3) (.lst (.cons (.xis (.var 0) [(⟨#[78, 111, 78, 117, 109, 98, 101, 114]⟩, true), (⟨#[78, 111, 68, 101, 101, 100]⟩, true), (⟨#[78, 111, 66, 111, 111, 107]⟩, true), (⟨#[78, 111, 87, 101, 98]⟩, true), (⟨#[78, 111, 78, 97, 109, 101, 115]⟩, true), (⟨#[78, 111, 65, 109, 111, 117, 110, 116]⟩, true), (⟨#[78, 111, 77, 97, 110, 121]⟩, true), (⟨#[78, 111, 84, 101, 120, 116]⟩, true), (⟨#[78, 111, 82, 111, 119]⟩, true), (⟨#[78, 111, 78, 97, 109, 101]⟩, false), (⟨#[78, 111, 76, 111, 116]⟩, false), (⟨#[78, 111, 80, 108, 97, 99, 101]⟩, false), (⟨#[78, 111, 66, 97, 99, 107]⟩, false), (⟨#[70, 97, 105, 108, 115]⟩, false), (⟨#[78, 111, 77, 97, 116, 101, 115]⟩, false), (⟨#[84, 111, 111, 77, 97, 110, 121]⟩, false)]) (.cons (.xis (.var 0) [(⟨#[78, 111, 78, 117, 109, 98, 101, 114]⟩, false), (⟨#[78, 111, 68, 101, 101, 100]⟩, false), (⟨#[78, 111, 66, 111, 111, 107]⟩, false), (⟨#[78, 111, 87, 101, 98]⟩, false), (⟨#[78, 111, 78, 97, 109, 101, 115]⟩, false), (⟨#[78, 111, 65, 109, 111, 117, 110, 116]⟩, false), (⟨#[78, 111, 77, 97, 110, 121]⟩, false), (⟨#[78, 111, 84, 101, 120, 116]⟩, false), (⟨#[78, 111, 82, 111, 119]⟩, false), (⟨#[78, 111, 78, 97, 109, 101]⟩, true), (⟨#[78, 111, 76, 111, 116]⟩, true), (⟨#[78, 111, 80, 108, 97, 99, 101]⟩, true), (⟨#[78, 111, 66, 97, 99, 107]⟩, true), (⟨#[70, 97, 105, 108, 115]⟩, false), (⟨#[78, 111, 77, 97, 116, 101, 115]⟩, false), (⟨#[84, 111, 111, 77, 97, 110, 121]⟩, false)]) (.cons (.xis (.var 0) [(⟨#[78, 111, 78, 117, 109, 98, 101, 114]⟩, false), (⟨#[78, 111, 68, 101, 101, 100]⟩, false), (⟨#[78, 111, 66, 111, 111, 107]⟩, false), (⟨#[78, 111, 87, 101, 98]⟩, false), (⟨#[78, 111, 78, 97, 109, 101, 115]⟩, false), (⟨#[78, 111, 65, 109, 111, 117, 110, 116]⟩, false), (⟨#[78, 111, 77, 97, 110, 121]⟩, false), (⟨#[78, 111, 84, 101, 120, 116]⟩, false), (⟨#[78, 111, 82, 111, 119]⟩, false), (⟨#[78, 111, 78, 97, 109, 101]⟩, false), (⟨#[78, 111, 76, 111, 116]⟩, false), (⟨#[78, 111, 80, 108, 97, 99, 101]⟩, false), (⟨#[78, 111, 66, 97, 99, 107]⟩, false), (⟨#[70, 97, 105, 108, 115]⟩, true), (⟨#[78, 111, 77, 97, 116, 101, 115]⟩, true), (⟨#[84, 111, 111, 77, 97, 110, 121]⟩, true)]) .nil))))) (.cons (.iff (.or (.cmp .NotEq (.meth .count (.var 1) (.cons (.con (.bl true)) .nil)) (.con (.int 1))) (.cmp .NotEq (.var 2) (.var 3))) (.cons (.ret (.con (.str ⟨#[111, 116, 104, 101, 114]⟩))) .nil) .nil) (.cons (.asg (.name 4) (.meth .index (.var 1) (.cons (.con (.bl true)) .nil))) (.cons (.iff (.cmp .NotEq (.var 2) (.lst (.cons (.cmp .Lt (.var 4) (.con (.int 9))) (.cons (.chain .Lt .Lt (.con (.int 8)) (.var 4) (.con (.int 13))) (.cons (.cmp .Gt (.var 4) (.con (.int 12))) .nil))))) (.cons (.ret (.con (.str ⟨#[111, 116, 104, 101, 114]⟩))) .nil) .nil) (.cons (.asg (.name 5) (.con (.str ⟨#[110, 117, 109, 98, 101, 114, 32, 100, 101, 101, 100, 32, 98, 111, 111, 107, 32, 119, 101, 98, 32, 110, 97, 109, 101, 115, 32, 97, 109, 111, 117, 110, 116, 32, 109, 97, 110, 121, 32, 116, 101, 120, 116, 32, 114, 111, 119, 32, 110, 97, 109, 101, 32, 108, 111, 116, 32, 112, 108, 97, 99, 101, 32, 98, 97, 99, 107, 32, 102, 97, 105, 108, 115, 32, 109, 97, 116, 101, 115, 32, 116, 111, 111, 109, 97, 110, 121]⟩))) (.cons (.ret (.idx (.meth .split (.var 5) (.cons (.con (.str ⟨#[32]⟩)) .nil)) (.var 4))) .nil)))))))))))))))
/-! _law_number -/
def I102 : Ss := (.cons (.asg (.name 1) (.idx (.lst (.cons (.con (.int 3)) (.cons (.con (.int 12)) (.cons (.bin .Pow (.con (.int 10)) (.con (.int 4))) (.cons (.bin .Pow (.con (.int 10)) (.con (.int 30))) .nil))))) (.call 14 (.cons (.var 0) (.cons (.con (.int 4)) .nil)) .nil [.inl 0, .inl 1]))) (.cons (.asg (.name 2) (.bin .Add (.call 14 (.cons (.var 0) (.cons (.var 1) .nil)) .nil [.inl 0, .inl 1]) (.bin .Mult (.bin .FloorDiv (.bin .Mult (.var 1) (.var 1)) (.con (.int 10))) (.blt .intOf (.cons (.cmp .Gt (.var 1) (.bin .Pow (.con (.int 10)) (.con (.int 9)))) .nil))))) (.cons (.ret (.idx (.lst (.cons (.var 2) (.cons (.var 2) (.cons (.bin .Sub (.con (.int 0)) (.var 2)) .nil)))) (.call 14 (.cons (.var 0) (.cons (.con (.int 3)) .nil)) .nil [.inl 0, .inl 1]))) .nil)))
/-! _law_one -/
def I103 : Ss := (.cons (.ret (.call 15 (.cons (.call 102 (.cons (.var 0) .nil) .nil [.inl 0]) (.cons (.bin .Add (.con (.int 1)) (.blt .abs (.cons (.call 102 (.cons (.var 0) .nil) .nil [.inl 0]) .nil))) .nil)) .nil [.inl 0, .inl 1])) .nil)
/-! _law_odd_number -/
def I104 : Ss := (.cons (.asg (.name 1) (.lst (.cons (.con .non) (.cons (.con (.bl true)) (.cons (.con (.bl false)) (.cons (.con (.str ⟨#[]⟩)) (.cons (.con (.str ⟨#[49]⟩)) (.cons (.con (.str ⟨#[49, 47, 50]⟩)) (.cons (.tup (.cons (.con (.int 1)) .nil)) (.cons (.tup (.cons (.con (.int 1)) (.cons (.con (.int 1)) .nil))) (.cons (.lst (.cons (.con (.int 1)) .nil)) (.cons (.lst .nil) (.cons .dct0 (.cons (.tup .nil) (.cons (.tup (.cons (.lst .nil) .nil)) .nil))))))))))))))) (.cons (.ret (.idx (.var 1) (.call 14 (.cons (.var 0) (.cons (.con (.int 13)) .nil)) .nil [.inl 0, .inl 1]))) .nil))
/-! _law_odd_fraction -/
def I105 : Ss := (.cons (.asg (.name 1) (.lst (.cons (.con .non) (.cons (.con (.bl true)) (.cons (.con (.bl false)) (.cons (.con (.int 0)) (.cons (.con (.int 1)) (.cons (.con (.str ⟨#[49, 47, 50]⟩)) (.cons (.tup (.cons (.con (.int 1)) .nil)) (.cons (.tup (.cons (.con (.int 1)) (.cons (.con (.int 2)) (.cons (.con (.int 3)) .nil)))) (.cons (.lst (.cons (.con (.int 1)) (.cons (.con (.int 2)) .nil))) (.cons (.tup (.cons (.con (.int 2)) (.cons (.con (.int 4)) .nil))) (.cons (.tup (.cons (.con (.int 0)) (.cons (.con (.int 2)) .nil))) (.cons (.tup (.cons (.con (.int 1)) (.cons (.con (.int 0)) .nil))) .nil)))))))))))))) (.cons (.asg (.name 1) (.bin .Add (.var 1) (.lst (.cons (.tup (.cons (.con (.int 1)) (.cons (.neg (.con (.int 1))) .nil))) (.cons (.tup (.cons (.neg (.con (.int 1))) (.cons (.neg (.con (.int 2))) .nil))) .nil))))) (.cons (.asg (.name 1) (.bin .Add (.var 1) (.lst (.cons (.tup (.cons (.con (.bl true)) (.cons (.con (.int 1)) .nil))) (.cons (.tup (.cons (.con (.int 1)) (.cons (.con (.bl true)) .nil))) (.cons (.tup (.cons (.con (.str ⟨#[49]⟩)) (.cons (.con (.int 1)) .nil))) (.cons (.tup (.cons (.tup (.cons (.con (.int 1)) (.cons (.con (.int 1)) .nil))) (.cons (.con (.int 1)) .nil))) (.cons (.tup (.cons (.con .non) (.cons (.con (.int 1)) .nil))) (.cons .dct0 (.cons (.tup .nil) (.cons (.lst .nil) (.cons (.tup (.cons (.lst .nil) (.cons (.con (.int 1)) .nil))) .nil)))))))))))) (.cons (.asg (.name 1) (.bin .Add (.var 1) (.lst (.cons (.tup (.cons (.con (.int 0)) (.cons (.con (.int 0)) .nil))) (.cons (.tup (.cons (.neg (.con (.int 6))) (.cons (.con (.int 4)) .nil))) .nil))))) (.cons (.ret (.idx (.var 1) (.call 14 (.cons (.var 0) (.cons (.con (.int 25)) .nil)) .nil [.inl 0, .inl 1]))) .nil)))))
/-! _law_asked -/
def I106 : Ss := (.cons (.try_ (.cons (.iff (.cmp .Eq (.bin .Mod (.var 0) (.con (.int 6))) (.con (.int 0))) (.cons (.ret (.lst (.cons (.con (.str ⟨#[116, 111, 108, 100]⟩)) (.cons (.ite (.cmp .Lt (.var 0) (.con (.int 6))) (.call 5 (.cons (.var 1) (.cons (.var 2) .nil)) .nil [.inl 0, .inl 1]) (.call 5 .nil (.cons (.var 2) (.cons (.var 1) .nil)) [.inl 1, .inl 0])) .nil)))) .nil) .nil) (.cons (.iff (.cmp .Eq (.bin .Mod (.var 0) (.con (.int 6))) (.con (.int 1))) (.cons (.ret (.lst (.cons (.con (.str ⟨#[116, 111, 108, 100]⟩)) (.cons (.ite (.cmp .Lt (.var 0) (.con (.int 6))) (.call 7 (.cons (.var 1) (.cons (.var 2) .nil)) .nil [.inl 0, .inl 1]) (.call 7 .nil (.cons (.var 2) (.cons (.var 1) .nil)) [.inl 1, .inl 0])) .nil)))) .nil) .nil) (.cons (.iff (.cmp .Eq (.bin .Mod (.var 0) (.con (.int 6))) (.con (.int 2))) (.cons (.ret (.lst (.cons (.con (.str ⟨#[116, 111, 108, 100]⟩)) (.cons (.ite (.cmp .Lt (.var 0) (.con (.int 6))) (.call 8 (.cons (.var 1) (.cons (.var 2) .nil)) .nil [.inl 0, .inl 1]) (.call 8 .nil (.cons (.var 2) (.cons (.var 1) .nil)) [.inl 1, .inl 0])) .nil)))) .nil) .nil) (.cons (.iff (.cmp .Eq (.bin .Mod (.var 0) (.con (.int 6))) (.con (.int 3))) (.cons (.ret (.lst (.cons (.con (.str ⟨#[116, 111, 108, 100]⟩)) (.cons (.ite (.cmp .Lt (.var 0) (.con (.int 6))) (.call 9 (.cons (.var 1) (.cons (.var 2) .nil)) .nil [.inl 0, .inl 1]) (.call 9 .nil (.cons (.var 2) (.cons (.var 1) .nil)) [.inl 1, .inl 0])) .nil)))) .nil) .nil) (.cons (.iff (.cmp .Eq (.bin .Mod (.var 0) (.con (.int 6))) (.con (.int 4))) (.cons (.ret (.lst (.cons (.con (.str ⟨#[116, 111, 108, 100]⟩)) (.cons (.ite (.cmp .Lt (.var 0) (.con (.int 6))) (.call 10 (.cons (.var 1) (.cons (.var 2) .nil)) .nil [.inl 0, .inl 1]) (.call 10 .nil (.cons (.var 2) (.cons (.var 1) .nil)) [.inl 1, .inl 0])) .nil)))) .nil) .nil) (.cons (.ret (.lst (.cons (.con (.str ⟨#[116, 111, 108, 100]⟩)) (.cons (.ite (.cmp .Lt (.var 0) (.con (.int 6))) (.call 11 (.cons (.var 1) (.cons (.var 2) .nil)) .nil [.inl 0, .inl 1]) (.call 11 .nil (.cons (.var 2) (.cons (.var 1) .nil)) [.inl 1, .inl 0])) .nil)))) .nil)))))) (.cons [[(⟨#[78, 111, 78, 117, 109, 98, 101, 114]⟩, true), (⟨#[78, 111, 68, 101, 101, 100]⟩, true), (⟨#[78, 111, 66, 111, 111, 107]⟩, true), (⟨#[78, 111, 87, 101, 98]⟩, true), (⟨#[78, 111, 78, 97, 109, 101, 115]⟩, true), (⟨#[78, 111, 65, 109, 111, 117, 110, 116]⟩, true), (⟨#[78, 111, 77, 97, 110, 121]⟩, true), (⟨#[78, 111, 84, 101, 120, 116]⟩, true), (⟨#[78, 111, 82, 111, 119]⟩, true), (⟨#[78, 111, 78, 97, 109, 101]⟩, false), (⟨#[78, 111, 76, 111, 116]⟩, false), (⟨#[78, 111, 80, 108, 97, 99, 101]⟩, false), (⟨#[78, 111, 66, 97, 99, 107]⟩, false), (⟨#[70, 97, 105, 108, 115]⟩, false), (⟨#[78, 111, 77, 97, 116, 101, 115]⟩, false), (⟨#[84, 111, 111, 77, 97, 110, 121]⟩, false)]] (some 3) (.cons (.ret (.lst (.cons (.call 101 (.cons (.var 3) .nil) .nil [.inl 0]) (.cons (.ite (.xis (.var 3) [(⟨#[78, 111, 78, 117, 109, 98, 101, 114]⟩, true), (⟨#[78, 111, 68, 101, 101, 100]⟩, false), (⟨#[78, 111, 66, 111, 111, 107]⟩, false), (⟨#[78, 111, 87, 101, 98]⟩, false), (⟨#[78, 111, 78, 97, 109, 101, 115]⟩, false), (⟨#[78, 111, 65, 109, 111, 117, 110, 116]⟩, false), (⟨#[78, 111, 77, 97, 110, 121]⟩, false), (⟨#[78, 111, 84, 101, 120, 116]⟩, false), (⟨#[78, 111, 82, 111, 119]⟩, false), (⟨#[78, 111, 78, 97, 109, 101]⟩, false), (⟨#[78, 111, 76, 111, 116]⟩, false), (⟨#[78, 111, 80, 108, 97, 99, 101]⟩, false), (⟨#[78, 111, 66, 97, 99, 107]⟩, false), (⟨#[70, 97, 105, 108, 115]⟩, false), (⟨#[78, 111, 77, 97, 116, 101, 115]⟩, false), (⟨#[84, 111, 111, 77, 97, 110, 121]⟩, false)]) (.xfld (.var 3) ⟨#[112, 108, 97, 99, 101]⟩ [⟨#[78, 111, 78, 117, 109, 98, 101, 114]⟩]) (.con .non)) .nil)))) .nil) .nil)) .nil)
/-! _law_is_fraction -/
def I107e1 : E := (.and (.isi (.var 1) "int") (.not (.isi (.var 1) "bool")))
def I107 : Ss := (.cons (.iff (.or (.not (.isi (.var 0) "tuple")) (.cmp .NotEq (.blt .len (.cons (.var 0) .nil)) (.con (.int 2)))) (.cons (.ret (.con (.bl false))) .nil) .nil) (.cons (.iff (.not (.blt .all (.cons (.lc I107e1 (.name 1) (.val (.var 0)) .nil [1]) .nil))) (.cons (.ret (.con (.bl false))) .nil) .nil) (.cons (.ret (.and (.cmp .Gt (.idx (.var 0) (.con (.int 1))) (.con (.int 0))) (.cmp .Eq (.call 15 (.cons (.idx (.var 0) (.con (.int 0))) (.cons (.idx (.var 0) (.con (.int 1))) .nil)) .nil [.inl 0, .inl 1]) (.var 0)))) .nil)))
/-! _law_doors_right -/
def I108b1 : Ss := (.cons (.asg (.name 10) (.idx (.lst (.cons (.tup (.cons (.var 1) (.cons (.var 2) .nil))) (.cons (.tup (.cons (.var 3) (.cons (.var 4) .nil))) .nil))) (.blt .intOf (.cons (.cmp .Eq (.bin .Mod (.var 9) (.con (.int 6))) (.con (.int 0))) .nil)))) (.cons (.asg (.name 11) (.idx (.lst (.cons (.tup (.cons (.var 5) (.cons (.var 6) .nil))) (.cons (.tup (.cons (.var 7) (.cons (.var 8) .nil))) .nil))) (.blt .intOf (.cons (.cmp .Eq (.bin .Mod (.var 9) (.con (.int 6))) (.con (.int 0))) .nil)))) (.cons (.iff (.and (.cmp .Eq (.bin .Mod (.var 9) (.con (.int 6))) (.con (.int 4))) (.cmp .Eq (.idx (.var 2) (.con (.int 0))) (.con (.int 0)))) (.cons (.asg (.name 10) (.tup (.cons (.var 1) (.cons (.tup (.cons (.con (.int 1)) (.cons (.con (.int 1)) .nil))) .nil)))) .nil) .nil) (.cons (.asg (.name 12) (.call 106 (.cons (.var 9) (.cons (.idx (.var 10) (.con (.int 0))) (.cons (.idx (.var 10) (.con (.int 1))) .nil))) .nil [.inl 0, .inl 1, .inl 2])) (.cons (.iff (.or (.cmp .NotEq (.idx (.var 12) (.con (.int 0))) (.con (.str ⟨#[116, 111, 108, 100]⟩))) (.cmp .NotEq (.call 106 (.cons (.var 9) (.cons (.idx (.var 11) (.con (.int 0))) (.cons (.idx (.var 10) (.con (.int 1))) .nil))) .nil [.inl 0, .inl 1, .inl 2]) (.lst (.cons (.con (.str ⟨#[110, 117, 109, 98, 101, 114]⟩)) (.cons (.con (.int 0)) .nil))))) (.cons (.ret (.con (.bl false))) .nil) .nil) (.cons (.iff (.or (.cmp .NotEq (.call 106 (.cons (.var 9) (.cons (.idx (.var 10) (.con (.int 0))) (.cons (.idx (.var 11) (.con (.int 1))) .nil))) .nil [.inl 0, .inl 1, .inl 2]) (.lst (.cons (.con (.str ⟨#[110, 117, 109, 98, 101, 114]⟩)) (.cons (.con (.int 1)) .nil)))) (.cmp .NotEq (.call 106 (.cons (.var 9) (.cons (.idx (.var 11) (.con (.int 0))) (.cons (.idx (.var 11) (.con (.int 1))) .nil))) .nil [.inl 0, .inl 1, .inl 2]) (.lst (.cons (.con (.str ⟨#[110, 117, 109, 98, 101, 114]⟩)) (.cons (.con (.int 0)) .nil))))) (.cons (.ret (.con (.bl false))) .nil) .nil) (.cons (.iff (.and (.cmp .Eq (.bin .Mod (.var 9) (.con (.int 6))) (.con (.int 4))) (.cmp .NotEq (.call 106 (.cons (.var 9) (.cons (.idx (.var 10) (.con (.int 0))) (.cons (.tup (.cons (.con (.int 0)) (.cons (.con (.int 1)) .nil))) .nil))) .nil [.inl 0, .inl 1, .inl 2]) (.lst (.cons (.con (.str ⟨#[110, 117, 109, 98, 101, 114]⟩)) (.cons (.con (.int 1)) .nil))))) (.cons (.ret (.con (.bl false))) .nil) .nil) (.cons (.iff (.cmp .NotEq (.blt .reprOf (.cons (.call 106 (.cons (.var 9) (.cons (.idx (.var 10) (.con (.int 0))) (.cons (.idx (.var 10) (.con (.int 1))) .nil))) .nil [.inl 0, .inl 1, .inl 2]) .nil)) (.blt .reprOf (.cons (.var 12) .nil))) (.cons (.ret (.con (.bl false))) .nil) .nil) .nil))))))))
def I108b2 : Ss := (.cons (.iff (.cmp .NotEq (.lst (.cons (.call 3 (.cons (.var 14) .nil) .nil [.inl 0]) (.cons (.call 3 .nil (.cons (.var 14) .nil) [.inl 0]) .nil))) (.lrep (.lst (.cons (.call 107 (.cons (.var 14) .nil) .nil [.inl 0]) .nil)) (.con (.int 2)))) (.cons (.ret (.con (.bl false))) .nil) .nil) .nil)
def I108e1 : E := (.isi (.call 3 (.cons (.var 14) .nil) .nil [.inl 0]) "bool")
def I108 : Ss := (.cons (.par [1, 2] (.cons (.call 103 (.cons (.var 0) .nil) .nil [.inl 0]) (.cons (.call 103 (.cons (.var 0) .nil) .nil [.inl 0]) .nil))) (.cons (.par [3, 4] (.cons (.call 102 (.cons (.var 0) .nil) .nil [.inl 0]) (.cons (.bin .Add (.con (.int 1)) (.blt .abs (.cons (.call 102 (.cons (.var 0) .nil) .nil [.inl 0]) .nil))) .nil))) (.cons (.par [5, 6] (.cons (.call 105 (.cons (.var 0) .nil) .nil [.inl 0]) (.cons (.call 105 (.cons (.var 0) .nil) .nil [.inl 0]) .nil))) (.cons (.par [7, 8] (.cons (.call 104 (.cons (.var 0) .nil) .nil [.inl 0]) (.cons (.idx (.lst (.cons (.con (.int 0)) (.cons (.call 104 (.cons (.var 0) .nil) .nil [.inl 0]) .nil))) (.call 14 (.cons (.var 0) (.cons (.con (.int 2)) .nil)) .nil [.inl 0, .inl 1])) .nil))) (.cons (.for_ (.name 9) (.range1 (.con (.int 12))) I108b1) (.cons (.asg (.name 13) (.lst (.cons (.var 5) (.cons (.var 6) (.cons (.var 7) (.cons (.var 1) (.cons (.var 2) (.cons (.var 3) (.cons (.lst (.cons (.var 1) .nil)) (.cons (.tup (.cons (.var 1) (.cons (.var 2) .nil))) .nil)))))))))) (.cons (.for_ (.name 14) (.val (.bin .Add (.var 13) (.lst (.cons (.tup (.cons (.var 3) (.cons (.var 4) .nil))) (.cons (.tup (.cons (.idx (.var 1) (.con (.int 0))) (.cons (.bin .Sub (.con (.int 0)) (.idx (.var 1) (.con (.int 1)))) .nil))) .nil))))) I108b2) (.cons (.ret (.blt .all (.cons (.lc I108e1 (.name 14) (.val (.lst (.cons (.var 5) (.cons (.var 1) .nil)))) .nil [14]) .nil))) .nil))))))))
/-! law -/
def I109e1 : E := (.call 108 (.cons (.var 2) .nil) .nil [.inl 0])
def I109b1 : Ss := (.cons (.asg (.name 2) (.call 13 (.cons (.call 12 (.cons (.var 0) (.cons (.var 1) .nil)) .nil [.inl 0, .inl 1]) .nil) .nil [.inl 0])) (.cons (.iff (.not (.blt .all (.cons (.lc I109e1 (.name 3) (.range1 (.con (.int 4))) .nil [3]) .nil))) (.cons (.ret (.con (.bl false))) .nil) .nil) .nil))
def I109 : Ss := (.cons (.for_ (.name 1) (.range1 (.blt .max2 (.cons (.con (.int 2)) (.cons (.blt .min2 (.cons (.blt .len (.cons (.var 0) .nil)) (.cons (.con (.int 6)) .nil))) .nil)))) I109b1) (.cons (.ret (.con (.bl true))) .nil))
def TL02 : Tbl := fun i => match i with
  | 101 => some (6, I101)
  | 102 => some (3, I102)
  | 103 => some (1, I103)
  | 104 => some (2, I104)
  | 105 => some (2, I105)
  | 106 => some (4, I106)
  | 107 => some (2, I107)
  | 108 => some (15, I108)
  | 109 => some (4, I109)
  | _ => none
end TW
namespace TW
open PySem PySem.Spec PyProof.Rows L2
local macro_rules
  | `(tactic| simp! only [] $[$loc]?) => `(tactic| simp only [List.map_cons, List.map_nil, List.length_cons, List.length_nil, List.replicate, List.cons_append, List.nil_append, List.append_nil, Nat.reduceAdd, Nat.reduceSub, Nat.zero_add, e_var, e_con, e_bin, k_bin1, k_bin2, e_neg, k_neg, e_not, k_not, e_and, k_and, e_or, k_or, e_cmp, k_cmp1, k_cmp2, e_chain, k_ch1, k_ch2, e_ite, k_ite, e_call, k_call1, k_call2, e_blt, k_blt, e_meth, k_meth1, k_meth2, e_tup, e_lst, e_dct0, e_dcd, e_idx, k_idx1, k_idx2, e_slc, k_slc1, k_slc2, k_slc3, o_none, o_some, k_o, e_new, k_new, e_lc, k_lc, lc_g, es_nil, es_cons, k_es1, k_es2, t_nil, t_cons, k_t, i_val, i_range, i_enum, k_ent, k_enl, enumD, s_par, k_par, setAll, k_body, k_turn, k_ivl, k_ivt, k_ivs, g_name, g_tup, g_sub, k_sub1, gs_nil, gs_cons, k_gs, s_asg, k_asg1, k_nx, s_expr, k_expr, s_ret, k_ret, s_iff, k_if, s_for, k_for, s_aug, s_pass, ss_nil, ss_cons, k_ss, bind_ok, bind_exc, bind_stuck, go_ok, go_exc, seq_nx, seq_rt, seq_exc, turn_nx, turn_rt, turn_exc, calm_ok', end_d, end_nx, end_exc, tru_bl, give, give_b, ders, der, arrD, List.getElem?_cons_zero, List.getElem?_cons_succ, List.set_cons_zero, List.set_cons_succ, if_true, if_false, Bool.false_eq_true, Bool.not_true, Bool.not_false, List.take_length, e_srtc, k_srtc, k_srt2, e_dnewT, e_dnewK, e_dget, k_dg1, e_dkeys, i_keys, e_setl, k_setl, e_isi, k_isi, e_rev, k_rev, e_tin, k_tinP, k_tinN, e_tget, k_tget, g_star, i_zip, is_int_non, is_int_bl, is_int_int, is_int_str, is_int_tup, is_int_lst, is_int_dct, is_str_non, is_str_bl, is_str_int, is_str_str, is_str_tup, is_str_lst, is_str_dct, is_bool_non, is_bool_bl, is_bool_int, is_bool_str, is_bool_tup, is_bool_lst, is_bool_dct, is_tuple_non, is_tuple_bl, is_tuple_int, is_tuple_str, is_tuple_tup, is_tuple_lst, is_tuple_dct, is_list_non, is_list_bl, is_list_int, is_list_str, is_list_tup, is_list_lst, is_list_dct, is_dict_non, is_dict_bl, is_dict_int, is_dict_str, is_dict_tup, is_dict_lst, is_dict_dct, bfD, len_s, len_l, len_t, c_eq_ii, c_ne_ii, c_lt_ii, c_le_ii, c_gt_ii, c_ge_ii, c_is_non, c_isn_non, noneD, Int.cast_ofNat_Int, Int.reduceEq, Int.reduceLT, Int.reduceLE, decide_true, decide_false, kTup, kLst, pures, sizeLine_eq, Nat.reduceLeDiff, g_tupq, idx_q0, idx_q1, is_tuple_q, len_q, k_ivq, e_xis, e_xfld, s_rais, k_rais1, k_rais2, s_try, cat_nx, cat_rt, cat_exc, out_rt, out_nx] $[$loc]?)
  | `(tactic| simp! only [$ls,*] $[$loc]?) => `(tactic| simp only [$ls,*, List.map_cons, List.map_nil, List.length_cons, List.length_nil, List.replicate, List.cons_append, List.nil_append, List.append_nil, Nat.reduceAdd, Nat.reduceSub, Nat.zero_add, e_var, e_con, e_bin, k_bin1, k_bin2, e_neg, k_neg, e_not, k_not, e_and, k_and, e_or, k_or, e_cmp, k_cmp1, k_cmp2, e_chain, k_ch1, k_ch2, e_ite, k_ite, e_call, k_call1, k_call2, e_blt, k_blt, e_meth, k_meth1, k_meth2, e_tup, e_lst, e_dct0, e_dcd, e_idx, k_idx1, k_idx2, e_slc, k_slc1, k_slc2, k_slc3, o_none, o_some, k_o, e_new, k_new, e_lc, k_lc, lc_g, es_nil, es_cons, k_es1, k_es2, t_nil, t_cons, k_t, i_val, i_range, i_enum, k_ent, k_enl, enumD, s_par, k_par, setAll, k_body, k_turn, k_ivl, k_ivt, k_ivs, g_name, g_tup, g_sub, k_sub1, gs_nil, gs_cons, k_gs, s_asg, k_asg1, k_nx, s_expr, k_expr, s_ret, k_ret, s_iff, k_if, s_for, k_for, s_aug, s_pass, ss_nil, ss_cons, k_ss, bind_ok, bind_exc, bind_stuck, go_ok, go_exc, seq_nx, seq_rt, seq_exc, turn_nx, turn_rt, turn_exc, calm_ok', end_d, end_nx, end_exc, tru_bl, give, give_b, ders, der, arrD, List.getElem?_cons_zero, List.getElem?_cons_succ, List.set_cons_zero, List.set_cons_succ, if_true, if_false, Bool.false_eq_true, Bool.not_true, Bool.not_false, List.take_length, e_srtc, k_srtc, k_srt2, e_dnewT, e_dnewK, e_dget, k_dg1, e_dkeys, i_keys, e_setl, k_setl, e_isi, k_isi, e_rev, k_rev, e_tin, k_tinP, k_tinN, e_tget, k_tget, g_star, i_zip, is_int_non, is_int_bl, is_int_int, is_int_str, is_int_tup, is_int_lst, is_int_dct, is_str_non, is_str_bl, is_str_int, is_str_str, is_str_tup, is_str_lst, is_str_dct, is_bool_non, is_bool_bl, is_bool_int, is_bool_str, is_bool_tup, is_bool_lst, is_bool_dct, is_tuple_non, is_tuple_bl, is_tuple_int, is_tuple_str, is_tuple_tup, is_tuple_lst, is_tuple_dct, is_list_non, is_list_bl, is_list_int, is_list_str, is_list_tup, is_list_lst, is_list_dct, is_dict_non, is_dict_bl, is_dict_int, is_dict_str, is_dict_tup, is_dict_lst, is_dict_dct, bfD, len_s, len_l, len_t, c_eq_ii, c_ne_ii, c_lt_ii, c_le_ii, c_gt_ii, c_ge_ii, c_is_non, c_isn_non, noneD, Int.cast_ofNat_Int, Int.reduceEq, Int.reduceLT, Int.reduceLE, decide_true, decide_false, kTup, kLst, pures, sizeLine_eq, Nat.reduceLeDiff, g_tupq, idx_q0, idx_q1, is_tuple_q, len_q, k_ivq, e_xis, e_xfld, s_rais, k_rais1, k_rais2, s_try, cat_nx, cat_rt, cat_exc, out_rt, out_nx] $[$loc]?)
/-- the refusal of a number's place -/
def nnX (i : Nat) : Xn := ⟨"NoNumber", [("place", .int i)]⟩
/-- a thing that is_fraction may look at -/
def SmF (d : D) : Prop := ∀ t b, d = .tup [.int t, .int b] → b.natAbs < 2 ^ 100000000
section
variable {t : Tbl} (T : Sub TC t) (k : Nat) (st : Sto)
include T
theorem fraction_x0 (a b : D) (h : isNumD a = false) : Fn t (k + 3) 5 [.d a, .d b] st = .exc (nnX 0) st := by
  rw [fn_at T rfl]
  simp! only [runF, startE, I5, is_number_ok T (k + 1), h]
  rfl
theorem fraction_x1 (u : Int) (b : D) (h : isNumD b = false) : Fn t (k + 3) 5 [.d (.int u), .d b] st = .exc (nnX 1) st := by
  rw [fn_at T rfl]
  simp! only [runF, startE, I5, is_number_ok T (k + 1), h, show isNumD (.int u) = true from rfl]
  rfl
theorem fraction_x2 (u : Int) : Fn t (k + 3) 5 [.d (.int u), .d (.int 0)] st = .exc (nnX 1) st := by
  rw [fn_at T rfl]
  simp! only [runF, startE, I5, is_number_ok T (k + 1), show isNumD (.int u) = true from rfl, show isNumD (.int 0) = true from rfl]
  rfl
theorem both_x0 (a b : D) (sa : SmF a) (h : isFrD a = false) : Fn t (k + 3) 6 [.d a, .d b] st = .exc (nnX 0) st := by
  rw [fn_at T rfl]
  simp! only [runF, startE, I6, I6b1, for_nil, for_cons, is_fraction_ok T k st a sa, h]
  rfl
theorem both_x1 (a b : D) (sa : SmF a) (sb : SmF b) (ha : isFrD a = true) (h : isFrD b = false) : Fn t (k + 3) 6 [.d a, .d b] st = .exc (nnX 1) st := by
  rw [fn_at T rfl]
  simp! only [runF, startE, I6, I6b1, for_nil, for_cons, is_fraction_ok T k st a sa, is_fraction_ok T k st b sb, ha, h]
  rfl
theorem plus_x (i : Nat) (a b : D) (h : Fn t (k + 3) 6 [.d a, .d b] st = .exc (nnX i) st) : Fn t (k + 4) 7 [.d a, .d b] st = .exc (nnX i) st := by
  rw [fn_at T rfl]
  simp! only [runF, startE, I7, h]
theorem minus_x (i : Nat) (a b : D) (h : Fn t (k + 3) 6 [.d a, .d b] st = .exc (nnX i) st) : Fn t (k + 4) 8 [.d a, .d b] st = .exc (nnX i) st := by
  rw [fn_at T rfl]
  simp! only [runF, startE, I8, h]
theorem times_x (i : Nat) (a b : D) (h : Fn t (k + 3) 6 [.d a, .d b] st = .exc (nnX i) st) : Fn t (k + 4) 9 [.d a, .d b] st = .exc (nnX i) st := by
  rw [fn_at T rfl]
  simp! only [runF, startE, I9, h]
theorem over_x (i : Nat) (a b : D) (h : Fn t (k + 3) 6 [.d a, .d b] st = .exc (nnX i) st) : Fn t (k + 4) 10 [.d a, .d b] st = .exc (nnX i) st := by
  rw [fn_at T rfl]
  simp! only [runF, startE, I10, h]
theorem below_x (i : Nat) (a b : D) (h : Fn t (k + 3) 6 [.d a, .d b] st = .exc (nnX i) st) : Fn t (k + 4) 11 [.d a, .d b] st = .exc (nnX i) st := by
  rw [fn_at T rfl]
  simp! only [runF, startE, I11, h]
theorem over_0 {n : Nat} {a : Rat} (ha : Fit n a) (h9 : n + 4 < 9000) : Fn t (k + 4) 10 [.d (qD a), .d (.tup [.int 0, .int 1])] st = .exc (nnX 1) st := by
  rw [fn_at T rfl]
  have h := check_both_ok T k st ha (b := 0) (m := 4) ⟨by decide, by decide⟩ h9
  have e : qD 0 = .tup [.int 0, .int 1] := rfl
  rw [e] at h
  have c : cmpD .Eq (.tup [.int 0, .int 1]) (.tup [.int 0, .int 1]) = some true := by decide
  simp! only [runF, startE, I10, h, c]
  rfl
end
section
variable {t : Tbl} (L : Sub TL02 t) (k : Nat) (st : Sto)
include L
theorem sort_ok (i : Nat) : Fn t (k + 1) 101 [.exn (nnX i)] st = .ok (.d (.str "number")) st := by
  rw [fn_at L rfl]
  have h : evSs (Fn t k) I101 (startE 6 [.exn (nnX i)]) st = .rt (.d (.str "number")) st := by kernel_rfl
  simp only [runF, h, end_d, List.take_length]
end
end TW
namespace TW
open PySem PySem.Spec PyProof.Rows L2
local macro_rules
  | `(tactic| simp! only [] $[$loc]?) => `(tactic| simp only [List.map_cons, List.map_nil, List.length_cons, List.length_nil, List.replicate, List.cons_append, List.nil_append, List.append_nil, Nat.reduceAdd, Nat.reduceSub, Nat.zero_add, e_var, e_con, e_bin, k_bin1, k_bin2, e_neg, k_neg, e_not, k_not, e_and, k_and, e_or, k_or, e_cmp, k_cmp1, k_cmp2, e_chain, k_ch1, k_ch2, e_ite, k_ite, e_call, k_call1, k_call2, e_blt, k_blt, e_meth, k_meth1, k_meth2, e_tup, e_lst, e_dct0, e_dcd, e_idx, k_idx1, k_idx2, e_slc, k_slc1, k_slc2, k_slc3, o_none, o_some, k_o, e_new, k_new, e_lc, k_lc, lc_g, es_nil, es_cons, k_es1, k_es2, t_nil, t_cons, k_t, i_val, i_range, i_enum, k_ent, k_enl, enumD, s_par, k_par, setAll, k_body, k_turn, k_ivl, k_ivt, k_ivs, g_name, g_tup, g_sub, k_sub1, gs_nil, gs_cons, k_gs, s_asg, k_asg1, k_nx, s_expr, k_expr, s_ret, k_ret, s_iff, k_if, s_for, k_for, s_aug, s_pass, ss_nil, ss_cons, k_ss, bind_ok, bind_exc, bind_stuck, go_ok, go_exc, seq_nx, seq_rt, seq_exc, turn_nx, turn_rt, turn_exc, calm_ok', end_d, end_nx, end_exc, tru_bl, give, give_b, ders, der, arrD, List.getElem?_cons_zero, List.getElem?_cons_succ, List.set_cons_zero, List.set_cons_succ, if_true, if_false, Bool.false_eq_true, Bool.not_true, Bool.not_false, List.take_length, e_srtc, k_srtc, k_srt2, e_dnewT, e_dnewK, e_dget, k_dg1, e_dkeys, i_keys, e_setl, k_setl, e_isi, k_isi, e_rev, k_rev, e_tin, k_tinP, k_tinN, e_tget, k_tget, g_star, i_zip, is_int_non, is_int_bl, is_int_int, is_int_str, is_int_tup, is_int_lst, is_int_dct, is_str_non, is_str_bl, is_str_int, is_str_str, is_str_tup, is_str_lst, is_str_dct, is_bool_non, is_bool_bl, is_bool_int, is_bool_str, is_bool_tup, is_bool_lst, is_bool_dct, is_tuple_non, is_tuple_bl, is_tuple_int, is_tuple_str, is_tuple_tup, is_tuple_lst, is_tuple_dct, is_list_non, is_list_bl, is_list_int, is_list_str, is_list_tup, is_list_lst, is_list_dct, is_dict_non, is_dict_bl, is_dict_int, is_dict_str, is_dict_tup, is_dict_lst, is_dict_dct, bfD, len_s, len_l, len_t, c_eq_ii, c_ne_ii, c_lt_ii, c_le_ii, c_gt_ii, c_ge_ii, c_is_non, c_isn_non, noneD, Int.cast_ofNat_Int, Int.reduceEq, Int.reduceLT, Int.reduceLE, decide_true, decide_false, kTup, kLst, pures, sizeLine_eq, Nat.reduceLeDiff, g_tupq, idx_q0, idx_q1, is_tuple_q, len_q, k_ivq, e_xis, e_xfld, s_rais, k_rais1, k_rais2, s_try, cat_nx, cat_rt, cat_exc, out_rt, out_nx] $[$loc]?)
  | `(tactic| simp! only [$ls,*] $[$loc]?) => `(tactic| simp only [$ls,*, List.map_cons, List.map_nil, List.length_cons, List.length_nil, List.replicate, List.cons_append, List.nil_append, List.append_nil, Nat.reduceAdd, Nat.reduceSub, Nat.zero_add, e_var, e_con, e_bin, k_bin1, k_bin2, e_neg, k_neg, e_not, k_not, e_and, k_and, e_or, k_or, e_cmp, k_cmp1, k_cmp2, e_chain, k_ch1, k_ch2, e_ite, k_ite, e_call, k_call1, k_call2, e_blt, k_blt, e_meth, k_meth1, k_meth2, e_tup, e_lst, e_dct0, e_dcd, e_idx, k_idx1, k_idx2, e_slc, k_slc1, k_slc2, k_slc3, o_none, o_some, k_o, e_new, k_new, e_lc, k_lc, lc_g, es_nil, es_cons, k_es1, k_es2, t_nil, t_cons, k_t, i_val, i_range, i_enum, k_ent, k_enl, enumD, s_par, k_par, setAll, k_body, k_turn, k_ivl, k_ivt, k_ivs, g_name, g_tup, g_sub, k_sub1, gs_nil, gs_cons, k_gs, s_asg, k_asg1, k_nx, s_expr, k_expr, s_ret, k_ret, s_iff, k_if, s_for, k_for, s_aug, s_pass, ss_nil, ss_cons, k_ss, bind_ok, bind_exc, bind_stuck, go_ok, go_exc, seq_nx, seq_rt, seq_exc, turn_nx, turn_rt, turn_exc, calm_ok', end_d, end_nx, end_exc, tru_bl, give, give_b, ders, der, arrD, List.getElem?_cons_zero, List.getElem?_cons_succ, List.set_cons_zero, List.set_cons_succ, if_true, if_false, Bool.false_eq_true, Bool.not_true, Bool.not_false, List.take_length, e_srtc, k_srtc, k_srt2, e_dnewT, e_dnewK, e_dget, k_dg1, e_dkeys, i_keys, e_setl, k_setl, e_isi, k_isi, e_rev, k_rev, e_tin, k_tinP, k_tinN, e_tget, k_tget, g_star, i_zip, is_int_non, is_int_bl, is_int_int, is_int_str, is_int_tup, is_int_lst, is_int_dct, is_str_non, is_str_bl, is_str_int, is_str_str, is_str_tup, is_str_lst, is_str_dct, is_bool_non, is_bool_bl, is_bool_int, is_bool_str, is_bool_tup, is_bool_lst, is_bool_dct, is_tuple_non, is_tuple_bl, is_tuple_int, is_tuple_str, is_tuple_tup, is_tuple_lst, is_tuple_dct, is_list_non, is_list_bl, is_list_int, is_list_str, is_list_tup, is_list_lst, is_list_dct, is_dict_non, is_dict_bl, is_dict_int, is_dict_str, is_dict_tup, is_dict_lst, is_dict_dct, bfD, len_s, len_l, len_t, c_eq_ii, c_ne_ii, c_lt_ii, c_le_ii, c_gt_ii, c_ge_ii, c_is_non, c_isn_non, noneD, Int.cast_ofNat_Int, Int.reduceEq, Int.reduceLT, Int.reduceLE, decide_true, decide_false, kTup, kLst, pures, sizeLine_eq, Nat.reduceLeDiff, g_tupq, idx_q0, idx_q1, is_tuple_q, len_q, k_ivq, e_xis, e_xfld, s_rais, k_rais1, k_rais2, s_try, cat_nx, cat_rt, cat_exc, out_rt, out_nx] $[$loc]?)
/-- the door of a mode -/
def doorI (m : Nat) : Nat := if m % 6 = 0 then 5 else m % 6 + 6
theorem md0 : binD .Mod (.int 0) (.int 6) = some (.int 0) := by rw [mod_pos (by decide)]; rfl
theorem md1 : binD .Mod (.int 1) (.int 6) = some (.int 1) := by rw [mod_pos (by decide)]; rfl
theorem md2 : binD .Mod (.int 2) (.int 6) = some (.int 2) := by rw [mod_pos (by decide)]; rfl
theorem md3 : binD .Mod (.int 3) (.int 6) = some (.int 3) := by rw [mod_pos (by decide)]; rfl
theorem md4 : binD .Mod (.int 4) (.int 6) = some (.int 4) := by rw [mod_pos (by decide)]; rfl
theorem md5 : binD .Mod (.int 5) (.int 6) = some (.int 5) := by rw [mod_pos (by decide)]; rfl
theorem md6 : binD .Mod (.int 6) (.int 6) = some (.int 0) := by rw [mod_pos (by decide)]; rfl
theorem md7 : binD .Mod (.int 7) (.int 6) = some (.int 1) := by rw [mod_pos (by decide)]; rfl
theorem md8 : binD .Mod (.int 8) (.int 6) = some (.int 2) := by rw [mod_pos (by decide)]; rfl
theorem md9 : binD .Mod (.int 9) (.int 6) = some (.int 3) := by rw [mod_pos (by decide)]; rfl
theorem md10 : binD .Mod (.int 10) (.int 6) = some (.int 4) := by rw [mod_pos (by decide)]; rfl
theorem md11 : binD .Mod (.int 11) (.int 6) = some (.int 5) := by rw [mod_pos (by decide)]; rfl
section
variable {t : Tbl} (L : Sub TL02 t) (k : Nat) (st : Sto)
include L
theorem asked_told (m : Nat) (hm : m < 12) (a b v : D) (h : Fn t (k + 4) (doorI m) [.d a, .d b] st = .ok (.d v) st) : Fn t (k + 5) 106 [.d (.int m), .d a, .d b] st = .ok (.d (.lst [.str "told", v])) st := by
  rw [fn_at L rfl]
  have key : evSs (Fn t (k + 4)) I106 (startE 4 [.d (.int m), .d a, .d b]) st = .rt (.d (.lst [.str "told", v])) st := by
    have : m = 0 ∨ m = 1 ∨ m = 2 ∨ m = 3 ∨ m = 4 ∨ m = 5 ∨ m = 6 ∨ m = 7 ∨ m = 8 ∨ m = 9 ∨ m = 10 ∨ m = 11 := by omega
    rcases this with rfl | rfl | rfl | rfl | rfl | rfl | rfl | rfl | rfl | rfl | rfl | rfl
    · have h : Fn t (k + 4) 5 [.d a, .d b] st = .ok (.d v) st := h
      simp! only [startE, I106, md0, h]
      rfl
    · have h : Fn t (k + 4) 7 [.d a, .d b] st = .ok (.d v) st := h
      simp! only [startE, I106, md1, h]
      rfl
    · have h : Fn t (k + 4) 8 [.d a, .d b] st = .ok (.d v) st := h
      simp! only [startE, I106, md2, h]
      rfl
    · have h : Fn t (k + 4) 9 [.d a, .d b] st = .ok (.d v) st := h
      simp! only [startE, I106, md3, h]
      rfl
    · have h : Fn t (k + 4) 10 [.d a, .d b] st = .ok (.d v) st := h
      simp! only [startE, I106, md4, h]
      rfl
    · have h : Fn t (k + 4) 11 [.d a, .d b] st = .ok (.d v) st := h
      simp! only [startE, I106, md5, h]
      rfl
    · have h : Fn t (k + 4) 5 [.d a, .d b] st = .ok (.d v) st := h
      simp! only [startE, I106, md6, h]
      rfl
    · have h : Fn t (k + 4) 7 [.d a, .d b] st = .ok (.d v) st := h
      simp! only [startE, I106, md7, h]
      rfl
    · have h : Fn t (k + 4) 8 [.d a, .d b] st = .ok (.d v) st := h
      simp! only [startE, I106, md8, h]
      rfl
    · have h : Fn t (k + 4) 9 [.d a, .d b] st = .ok (.d v) st := h
      simp! only [startE, I106, md9, h]
      rfl
    · have h : Fn t (k + 4) 10 [.d a, .d b] st = .ok (.d v) st := h
      simp! only [startE, I106, md10, h]
      rfl
    · have h : Fn t (k + 4) 11 [.d a, .d b] st = .ok (.d v) st := h
      simp! only [startE, I106, md11, h]
      rfl
  simp only [runF, key, end_d, List.take_length]
theorem asked_exc (i : Nat) (m : Nat) (hm : m < 12) (a b : D) (h : Fn t (k + 4) (doorI m) [.d a, .d b] st = .exc (nnX i) st) : Fn t (k + 5) 106 [.d (.int m), .d a, .d b] st = .ok (.d (.lst [.str "number", .int i])) st := by
  rw [fn_at L rfl]
  have h2 : Fn t (k + 4) 101 [.exn (nnX i)] st = .ok (.d (.str "number")) st := sort_ok L (k + 3) st i
  have key : evSs (Fn t (k + 4)) I106 (startE 4 [.d (.int m), .d a, .d b]) st = .rt (.d (.lst [.str "number", .int i])) st := by
    have : m = 0 ∨ m = 1 ∨ m = 2 ∨ m = 3 ∨ m = 4 ∨ m = 5 ∨ m = 6 ∨ m = 7 ∨ m = 8 ∨ m = 9 ∨ m = 10 ∨ m = 11 := by omega
    rcases this with rfl | rfl | rfl | rfl | rfl | rfl | rfl | rfl | rfl | rfl | rfl | rfl
    · have h : Fn t (k + 4) 5 [.d a, .d b] st = .exc (nnX i) st := h
      simp! only [startE, I106, md0, h]
      rw [k_cat, show anyX _ (nnX i).cls = some true from rfl]
      simp! only [putO, h2, k_xis, k_xfld]
      rfl
    · have h : Fn t (k + 4) 7 [.d a, .d b] st = .exc (nnX i) st := h
      simp! only [startE, I106, md1, h]
      rw [k_cat, show anyX _ (nnX i).cls = some true from rfl]
      simp! only [putO, h2, k_xis, k_xfld]
      rfl
    · have h : Fn t (k + 4) 8 [.d a, .d b] st = .exc (nnX i) st := h
      simp! only [startE, I106, md2, h]
      rw [k_cat, show anyX _ (nnX i).cls = some true from rfl]
      simp! only [putO, h2, k_xis, k_xfld]
      rfl
    · have h : Fn t (k + 4) 9 [.d a, .d b] st = .exc (nnX i) st := h
      simp! only [startE, I106, md3, h]
      rw [k_cat, show anyX _ (nnX i).cls = some true from rfl]
      simp! only [putO, h2, k_xis, k_xfld]
      rfl
    · have h : Fn t (k + 4) 10 [.d a, .d b] st = .exc (nnX i) st := h
      simp! only [startE, I106, md4, h]
      rw [k_cat, show anyX _ (nnX i).cls = some true from rfl]
      simp! only [putO, h2, k_xis, k_xfld]
      rfl
    · have h : Fn t (k + 4) 11 [.d a, .d b] st = .exc (nnX i) st := h
      simp! only [startE, I106, md5, h]
      rw [k_cat, show anyX _ (nnX i).cls = some true from rfl]
      simp! only [putO, h2, k_xis, k_xfld]
      rfl
    · have h : Fn t (k + 4) 5 [.d a, .d b] st = .exc (nnX i) st := h
      simp! only [startE, I106, md6, h]
      rw [k_cat, show anyX _ (nnX i).cls = some true from rfl]
      simp! only [putO, h2, k_xis, k_xfld]
      rfl
    · have h : Fn t (k + 4) 7 [.d a, .d b] st = .exc (nnX i) st := h
      simp! only [startE, I106, md7, h]
      rw [k_cat, show anyX _ (nnX i).cls = some true from rfl]
      simp! only [putO, h2, k_xis, k_xfld]
      rfl
    · have h : Fn t (k + 4) 8 [.d a, .d b] st = .exc (nnX i) st := h
      simp! only [startE, I106, md8, h]
      rw [k_cat, show anyX _ (nnX i).cls = some true from rfl]
      simp! only [putO, h2, k_xis, k_xfld]
      rfl
    · have h : Fn t (k + 4) 9 [.d a, .d b] st = .exc (nnX i) st := h
      simp! only [startE, I106, md9, h]
      rw [k_cat, show anyX _ (nnX i).cls = some true from rfl]
      simp! only [putO, h2, k_xis, k_xfld]
      rfl
    · have h : Fn t (k + 4) 10 [.d a, .d b] st = .exc (nnX i) st := h
      simp! only [startE, I106, md10, h]
      rw [k_cat, show anyX _ (nnX i).cls = some true from rfl]
      simp! only [putO, h2, k_xis, k_xfld]
      rfl
    · have h : Fn t (k + 4) 11 [.d a, .d b] st = .exc (nnX i) st := h
      simp! only [startE, I106, md11, h]
      rw [k_cat, show anyX _ (nnX i).cls = some true from rfl]
      simp! only [putO, h2, k_xis, k_xfld]
      rfl
  simp only [runF, key, end_d, List.take_length]
end
end TW
namespace TW
open PySem PySem.Spec PyProof.Rows L2
local macro_rules
  | `(tactic| simp! only [] $[$loc]?) => `(tactic| simp only [List.map_cons, List.map_nil, List.length_cons, List.length_nil, List.replicate, List.cons_append, List.nil_append, List.append_nil, Nat.reduceAdd, Nat.reduceSub, Nat.zero_add, e_var, e_con, e_bin, k_bin1, k_bin2, e_neg, k_neg, e_not, k_not, e_and, k_and, e_or, k_or, e_cmp, k_cmp1, k_cmp2, e_chain, k_ch1, k_ch2, e_ite, k_ite, e_call, k_call1, k_call2, e_blt, k_blt, e_meth, k_meth1, k_meth2, e_tup, e_lst, e_dct0, e_dcd, e_idx, k_idx1, k_idx2, e_slc, k_slc1, k_slc2, k_slc3, o_none, o_some, k_o, e_new, k_new, e_lc, k_lc, lc_g, es_nil, es_cons, k_es1, k_es2, t_nil, t_cons, k_t, i_val, i_range, i_enum, k_ent, k_enl, enumD, s_par, k_par, setAll, k_body, k_turn, k_ivl, k_ivt, k_ivs, g_name, g_tup, g_sub, k_sub1, gs_nil, gs_cons, k_gs, s_asg, k_asg1, k_nx, s_expr, k_expr, s_ret, k_ret, s_iff, k_if, s_for, k_for, s_aug, s_pass, ss_nil, ss_cons, k_ss, bind_ok, bind_exc, bind_stuck, go_ok, go_exc, seq_nx, seq_rt, seq_exc, turn_nx, turn_rt, turn_exc, calm_ok', end_d, end_nx, end_exc, tru_bl, give, give_b, ders, der, arrD, List.getElem?_cons_zero, List.getElem?_cons_succ, List.set_cons_zero, List.set_cons_succ, if_true, if_false, Bool.false_eq_true, Bool.not_true, Bool.not_false, List.take_length, e_srtc, k_srtc, k_srt2, e_dnewT, e_dnewK, e_dget, k_dg1, e_dkeys, i_keys, e_setl, k_setl, e_isi, k_isi, e_rev, k_rev, e_tin, k_tinP, k_tinN, e_tget, k_tget, g_star, i_zip, is_int_non, is_int_bl, is_int_int, is_int_str, is_int_tup, is_int_lst, is_int_dct, is_str_non, is_str_bl, is_str_int, is_str_str, is_str_tup, is_str_lst, is_str_dct, is_bool_non, is_bool_bl, is_bool_int, is_bool_str, is_bool_tup, is_bool_lst, is_bool_dct, is_tuple_non, is_tuple_bl, is_tuple_int, is_tuple_str, is_tuple_tup, is_tuple_lst, is_tuple_dct, is_list_non, is_list_bl, is_list_int, is_list_str, is_list_tup, is_list_lst, is_list_dct, is_dict_non, is_dict_bl, is_dict_int, is_dict_str, is_dict_tup, is_dict_lst, is_dict_dct, bfD, len_s, len_l, len_t, c_eq_ii, c_ne_ii, c_lt_ii, c_le_ii, c_gt_ii, c_ge_ii, c_is_non, c_isn_non, noneD, Int.cast_ofNat_Int, Int.reduceEq, Int.reduceLT, Int.reduceLE, decide_true, decide_false, kTup, kLst, pures, sizeLine_eq, Nat.reduceLeDiff, g_tupq, idx_q0, idx_q1, is_tuple_q, len_q, k_ivq, e_xis, e_xfld, s_rais, k_rais1, k_rais2, s_try, cat_nx, cat_rt, cat_exc, out_rt, out_nx] $[$loc]?)
  | `(tactic| simp! only [$ls,*] $[$loc]?) => `(tactic| simp only [$ls,*, List.map_cons, List.map_nil, List.length_cons, List.length_nil, List.replicate, List.cons_append, List.nil_append, List.append_nil, Nat.reduceAdd, Nat.reduceSub, Nat.zero_add, e_var, e_con, e_bin, k_bin1, k_bin2, e_neg, k_neg, e_not, k_not, e_and, k_and, e_or, k_or, e_cmp, k_cmp1, k_cmp2, e_chain, k_ch1, k_ch2, e_ite, k_ite, e_call, k_call1, k_call2, e_blt, k_blt, e_meth, k_meth1, k_meth2, e_tup, e_lst, e_dct0, e_dcd, e_idx, k_idx1, k_idx2, e_slc, k_slc1, k_slc2, k_slc3, o_none, o_some, k_o, e_new, k_new, e_lc, k_lc, lc_g, es_nil, es_cons, k_es1, k_es2, t_nil, t_cons, k_t, i_val, i_range, i_enum, k_ent, k_enl, enumD, s_par, k_par, setAll, k_body, k_turn, k_ivl, k_ivt, k_ivs, g_name, g_tup, g_sub, k_sub1, gs_nil, gs_cons, k_gs, s_asg, k_asg1, k_nx, s_expr, k_expr, s_ret, k_ret, s_iff, k_if, s_for, k_for, s_aug, s_pass, ss_nil, ss_cons, k_ss, bind_ok, bind_exc, bind_stuck, go_ok, go_exc, seq_nx, seq_rt, seq_exc, turn_nx, turn_rt, turn_exc, calm_ok', end_d, end_nx, end_exc, tru_bl, give, give_b, ders, der, arrD, List.getElem?_cons_zero, List.getElem?_cons_succ, List.set_cons_zero, List.set_cons_succ, if_true, if_false, Bool.false_eq_true, Bool.not_true, Bool.not_false, List.take_length, e_srtc, k_srtc, k_srt2, e_dnewT, e_dnewK, e_dget, k_dg1, e_dkeys, i_keys, e_setl, k_setl, e_isi, k_isi, e_rev, k_rev, e_tin, k_tinP, k_tinN, e_tget, k_tget, g_star, i_zip, is_int_non, is_int_bl, is_int_int, is_int_str, is_int_tup, is_int_lst, is_int_dct, is_str_non, is_str_bl, is_str_int, is_str_str, is_str_tup, is_str_lst, is_str_dct, is_bool_non, is_bool_bl, is_bool_int, is_bool_str, is_bool_tup, is_bool_lst, is_bool_dct, is_tuple_non, is_tuple_bl, is_tuple_int, is_tuple_str, is_tuple_tup, is_tuple_lst, is_tuple_dct, is_list_non, is_list_bl, is_list_int, is_list_str, is_list_tup, is_list_lst, is_list_dct, is_dict_non, is_dict_bl, is_dict_int, is_dict_str, is_dict_tup, is_dict_lst, is_dict_dct, bfD, len_s, len_l, len_t, c_eq_ii, c_ne_ii, c_lt_ii, c_le_ii, c_gt_ii, c_ge_ii, c_is_non, c_isn_non, noneD, Int.cast_ofNat_Int, Int.reduceEq, Int.reduceLT, Int.reduceLE, decide_true, decide_false, kTup, kLst, pures, sizeLine_eq, Nat.reduceLeDiff, g_tupq, idx_q0, idx_q1, is_tuple_q, len_q, k_ivq, e_xis, e_xfld, s_rais, k_rais1, k_rais2, s_try, cat_nx, cat_rt, cat_exc, out_rt, out_nx] $[$loc]?)
/-- a small thing -/
def Sm4 (d : D) : Prop := ∀ t b, d = .tup [.int t, .int b] → b.natAbs < 16
theorem ixN {xs : List D} {r : Nat} (h : (r : Int) < xs.length) : ∃ x, idxD (.lst xs) (.int r) = some x ∧ x ∈ xs := by
  have h2 : r < xs.length := by omega
  exact ⟨xs[r], atI_nat (List.getElem?_eq_getElem h2), List.getElem_mem h2⟩
theorem catL {xs ys : List D} (h : xs.length + ys.length ≤ 16777216) : binD .Add (.lst xs) (.lst ys) = some (.lst (xs ++ ys)) := by
  simp only [binD, sizeLine_eq]
  rw [if_pos h]
theorem pw4 : binD .Pow (.int 10) (.int 4) = some (.int 10000) := powI (i := 10) (j := 4) (by decide) (by decide)
theorem pw9 : binD .Pow (.int 10) (.int 9) = some (.int 1000000000) := powI (i := 10) (j := 9) (by decide) (by decide)
theorem pw30 : binD .Pow (.int 10) (.int 30) = some (.int 1000000000000000000000000000000) := powI (i := 10) (j := 30) (by decide) (by decide)
section
variable {t : Tbl} (T : Sub TC t) (L : Sub TL02 t) (k : Nat) {st : Sto}
include T L
theorem number2_ok {n : Nat} (P : PoolAt n st) : ∃ (v : Int) (st' : Sto), Fn t (k + 2) 102 [.ref n] st = .ok (.d (.int v)) st' ∧ Drawn n st st' ∧ v.natAbs < 2 ^ 210 := by
  rw [fn_at L rfl]
  obtain ⟨r, s1, e1, d1, l1⟩ := take_ok T k P (many := 4) (b := 10) (by decide) (by decide) (by decide)
  have P1 := d1.pool P
  obtain ⟨sz, hx, h0, h1⟩ : ∃ sz : Int, idxD (.lst [.int 3, .int 12, .int 10000, .int 1000000000000000000000000000000]) (.int r) = some (.int sz) ∧ 0 < sz ∧ sz ≤ 1000000000000000000000000000000 := by
    obtain ⟨x, q1, q2⟩ := ixN (xs := [D.int 3, .int 12, .int 10000, .int 1000000000000000000000000000000]) (r := r) (by simpa using l1)
    simp only [List.mem_cons, List.not_mem_nil, or_false] at q2
    rcases q2 with rfl | rfl | rfl | rfl <;> exact ⟨_, q1, by decide, by decide⟩
  have hb : sz.natAbs < 2 ^ 100 := by
    have : (2 : Nat) ^ 100 = 1267650600228229401496703205376 := by decide
    omega
  obtain ⟨v, s2, e2, d2, l2⟩ := take_ok T k P1 (many := sz) (b := 100) h0 hb (by decide)
  have P2 := d2.pool P1
  obtain ⟨w, s3, e3, d3, l3⟩ := take_ok T k P2 (many := 3) (b := 10) (by decide) (by decide) (by decide)
  have m1 : binD .Mult (.int sz) (.int sz) = some (.int (sz * sz)) := mulI hb hb (by decide)
  have f1 : binD .FloorDiv (.int (sz * sz)) (.int 10) = some (.int (sz * sz / 10)) := fdiv_pos (b := 10) (by decide) (by decide) (by decide)
  have i1 : ∀ b : Bool, intD [.bl b] = some (.int (if b = true then 1 else 0)) := fun b => rfl
  have m2 : ∀ b : Bool, binD .Mult (.int (sz * sz / 10)) (.int (if b = true then 1 else 0)) = some (.int (sz * sz / 10 * (if b = true then 1 else 0))) := fun b => mulR (by cases b <;> decide)
  obtain ⟨f, hf⟩ : ∃ f : Int, f = (v : Int) + sz * sz / 10 * (if decide (1000000000 < sz) = true then 1 else 0) := ⟨_, rfl⟩
  have bf : f.natAbs < 2 ^ 210 := by
    have a1 : sz * sz ≤ 1000000000000000000000000000000 * 1000000000000000000000000000000 := Int.mul_le_mul h1 h1 (by omega) (by decide)
    have a2 : 0 ≤ sz * sz := Int.mul_nonneg (by omega) (by omega)
    have a3 : (2 : Nat) ^ 210 = 1645504557321206042154969182557350504982735865633579863348609024 := by decide
    have a4 : 0 ≤ sz * sz / 10 := by omega
    have a5 : sz * sz / 10 ≤ 1000000000000000000000000000000 * 1000000000000000000000000000000 := by omega
    rw [hf]
    split <;> omega
  obtain ⟨x, q1, q2⟩ := ixN (xs := [D.int f, .int f, .int (0 - f)]) (r := w) (by simpa using l3)
  obtain ⟨y, rfl, by1⟩ : ∃ y : Int, x = .int y ∧ y.natAbs < 2 ^ 210 := by
    simp only [List.mem_cons, List.not_mem_nil, or_false] at q2
    rcases q2 with rfl | rfl | rfl
    · exact ⟨_, rfl, bf⟩
    · exact ⟨_, rfl, bf⟩
    · exact ⟨_, rfl, by omega⟩
  refine ⟨y, s3, ?_, (d1.trans d2).trans d3, by1⟩
  simp! only [runF, startE, I102, pw4, pw9, pw30, e1, hx, e2, m1, f1, i1, m2, addI]
  rw [← hf]
  simp! only [subI, e3, q1]
  rw [((d1.trans d2).trans d3).take]
theorem one2_ok {n : Nat} (P : PoolAt n st) : ∃ (q : Rat) (st' : Sto), Fn t (k + 3) 103 [.ref n] st = .ok (.d (qD q)) st' ∧ Drawn n st st' ∧ Fit 211 q := by
  rw [fn_at L rfl]
  obtain ⟨a, s1, e1, d1, b1⟩ := number2_ok T L k P
  obtain ⟨b, s2, e2, d2, b2⟩ := number2_ok T L k (d1.pool P)
  have hb2 : 1 + b.natAbs < 2 ^ 211 := by
    have : (2 : Nat) ^ 211 = 2 * 2 ^ 210 := by decide
    have : (1 : Nat) < 2 ^ 210 := by decide
    omega
  have hl := low_ok T (k + 1) s2 a (1 + b.natAbs) (n := 211) (by omega) hb2 (by decide)
  refine ⟨mkRat a (1 + b.natAbs), s2, ?_, d1.trans d2, fit_mk (by omega) (Nat.lt_trans b1 (by decide)) hb2⟩
  have e : ((1 + b.natAbs : Nat) : Int) = 1 + (b.natAbs : Int) := by omega
  rw [e] at hl
  simp! only [runF, startE, I103, e1, e2, absI, addI, hl]
  rw [(d1.trans d2).take]
theorem odd_number_ok {n : Nat} (P : PoolAt n st) : ∃ (d : D) (st' : Sto), Fn t (k + 2) 104 [.ref n] st = .ok (.d d) st' ∧ Drawn n st st' ∧ isNumD d = false ∧ Sm4 d := by
  rw [fn_at L rfl]
  obtain ⟨r, s1, e1, d1, l1⟩ := take_ok T k P (many := 13) (b := 10) (by decide) (by decide) (by decide)
  obtain ⟨x, q1, q2⟩ := ixN (xs := [D.non, .bl true, .bl false, .str ⟨#[]⟩, .str ⟨#[49]⟩, .str ⟨#[49, 47, 50]⟩, .tup [.int 1], .tup [.int 1, .int 1], .lst [.int 1], .lst [], .dct [] [], .tup [], .tup [.lst []]]) (r := r) (by simpa using l1)
  refine ⟨x, s1, ?_, d1, ?_⟩
  · simp! only [runF, startE, I104, e1, q1]
    rw [d1.take]
  · simp only [List.mem_cons, List.not_mem_nil, or_false] at q2
    rcases q2 with rfl | rfl | rfl | rfl | rfl | rfl | rfl | rfl | rfl | rfl | rfl | rfl | rfl <;> refine ⟨rfl, fun t b e => ?_⟩ <;> first | (cases e; done) | (cases e; decide)
theorem odd_fraction_ok {n : Nat} (P : PoolAt n st) : ∃ (d : D) (st' : Sto), Fn t (k + 2) 105 [.ref n] st = .ok (.d d) st' ∧ Drawn n st st' ∧ isFrD d = false ∧ Sm4 d := by
  rw [fn_at L rfl]
  obtain ⟨r, s1, e1, d1, l1⟩ := take_ok T k P (many := 25) (b := 10) (by decide) (by decide) (by decide)
  obtain ⟨x, q1, q2⟩ := ixN (xs := [D.non, .bl true, .bl false, .int 0, .int 1, .str ⟨#[49, 47, 50]⟩, .tup [.int 1], .tup [.int 1, .int 2, .int 3], .lst [.int 1, .int 2], .tup [.int 2, .int 4], .tup [.int 0, .int 2], .tup [.int 1, .int 0], .tup [.int 1, .int (-1)], .tup [.int (-1), .int (-2)], .tup [.bl true, .int 1], .tup [.int 1, .bl true], .tup [.str ⟨#[49]⟩, .int 1], .tup [.tup [.int 1, .int 1], .int 1], .tup [.non, .int 1], .dct [] [], .tup [], .lst [], .tup [.lst [], .int 1], .tup [.int 0, .int 0], .tup [.int (-6), .int 4]]) (r := r) (by simpa using l1)
  refine ⟨x, s1, ?_, d1, ?_⟩
  · simp! only [runF, startE, I105, catL, e1, q1]
    rw [d1.take]
  · simp only [List.mem_cons, List.not_mem_nil, or_false] at q2
    rcases q2 with rfl | rfl | rfl | rfl | rfl | rfl | rfl | rfl | rfl | rfl | rfl | rfl | rfl | rfl | rfl | rfl | rfl | rfl | rfl | rfl | rfl | rfl | rfl | rfl | rfl <;> refine ⟨by decide, fun t b e => ?_⟩ <;> first | (cases e; done) | (cases e; decide)
end
end TW
namespace TW
open PySem PySem.Spec PyProof.Rows L2
local macro_rules
  | `(tactic| simp! only [] $[$loc]?) => `(tactic| simp only [List.map_cons, List.map_nil, List.length_cons, List.length_nil, List.replicate, List.cons_append, List.nil_append, List.append_nil, Nat.reduceAdd, Nat.reduceSub, Nat.zero_add, e_var, e_con, e_bin, k_bin1, k_bin2, e_neg, k_neg, e_not, k_not, e_and, k_and, e_or, k_or, e_cmp, k_cmp1, k_cmp2, e_chain, k_ch1, k_ch2, e_ite, k_ite, e_call, k_call1, k_call2, e_blt, k_blt, e_meth, k_meth1, k_meth2, e_tup, e_lst, e_dct0, e_dcd, e_idx, k_idx1, k_idx2, e_slc, k_slc1, k_slc2, k_slc3, o_none, o_some, k_o, e_new, k_new, e_lc, k_lc, lc_g, es_nil, es_cons, k_es1, k_es2, t_nil, t_cons, k_t, i_val, i_range, i_enum, k_ent, k_enl, enumD, s_par, k_par, setAll, k_body, k_turn, k_ivl, k_ivt, k_ivs, g_name, g_tup, g_sub, k_sub1, gs_nil, gs_cons, k_gs, s_asg, k_asg1, k_nx, s_expr, k_expr, s_ret, k_ret, s_iff, k_if, s_for, k_for, s_aug, s_pass, ss_nil, ss_cons, k_ss, bind_ok, bind_exc, bind_stuck, go_ok, go_exc, seq_nx, seq_rt, seq_exc, turn_nx, turn_rt, turn_exc, calm_ok', end_d, end_nx, end_exc, tru_bl, give, give_b, ders, der, arrD, List.getElem?_cons_zero, List.getElem?_cons_succ, List.set_cons_zero, List.set_cons_succ, if_true, if_false, Bool.false_eq_true, Bool.not_true, Bool.not_false, List.take_length, e_srtc, k_srtc, k_srt2, e_dnewT, e_dnewK, e_dget, k_dg1, e_dkeys, i_keys, e_setl, k_setl, e_isi, k_isi, e_rev, k_rev, e_tin, k_tinP, k_tinN, e_tget, k_tget, g_star, i_zip, is_int_non, is_int_bl, is_int_int, is_int_str, is_int_tup, is_int_lst, is_int_dct, is_str_non, is_str_bl, is_str_int, is_str_str, is_str_tup, is_str_lst, is_str_dct, is_bool_non, is_bool_bl, is_bool_int, is_bool_str, is_bool_tup, is_bool_lst, is_bool_dct, is_tuple_non, is_tuple_bl, is_tuple_int, is_tuple_str, is_tuple_tup, is_tuple_lst, is_tuple_dct, is_list_non, is_list_bl, is_list_int, is_list_str, is_list_tup, is_list_lst, is_list_dct, is_dict_non, is_dict_bl, is_dict_int, is_dict_str, is_dict_tup, is_dict_lst, is_dict_dct, bfD, len_s, len_l, len_t, c_eq_ii, c_ne_ii, c_lt_ii, c_le_ii, c_gt_ii, c_ge_ii, c_is_non, c_isn_non, noneD, Int.cast_ofNat_Int, Int.reduceEq, Int.reduceLT, Int.reduceLE, decide_true, decide_false, kTup, kLst, pures, sizeLine_eq, Nat.reduceLeDiff, g_tupq, idx_q0, idx_q1, is_tuple_q, len_q, k_ivq, e_xis, e_xfld, s_rais, k_rais1, k_rais2, s_try, cat_nx, cat_rt, cat_exc, out_rt, out_nx] $[$loc]?)
  | `(tactic| simp! only [$ls,*] $[$loc]?) => `(tactic| simp only [$ls,*, List.map_cons, List.map_nil, List.length_cons, List.length_nil, List.replicate, List.cons_append, List.nil_append, List.append_nil, Nat.reduceAdd, Nat.reduceSub, Nat.zero_add, e_var, e_con, e_bin, k_bin1, k_bin2, e_neg, k_neg, e_not, k_not, e_and, k_and, e_or, k_or, e_cmp, k_cmp1, k_cmp2, e_chain, k_ch1, k_ch2, e_ite, k_ite, e_call, k_call1, k_call2, e_blt, k_blt, e_meth, k_meth1, k_meth2, e_tup, e_lst, e_dct0, e_dcd, e_idx, k_idx1, k_idx2, e_slc, k_slc1, k_slc2, k_slc3, o_none, o_some, k_o, e_new, k_new, e_lc, k_lc, lc_g, es_nil, es_cons, k_es1, k_es2, t_nil, t_cons, k_t, i_val, i_range, i_enum, k_ent, k_enl, enumD, s_par, k_par, setAll, k_body, k_turn, k_ivl, k_ivt, k_ivs, g_name, g_tup, g_sub, k_sub1, gs_nil, gs_cons, k_gs, s_asg, k_asg1, k_nx, s_expr, k_expr, s_ret, k_ret, s_iff, k_if, s_for, k_for, s_aug, s_pass, ss_nil, ss_cons, k_ss, bind_ok, bind_exc, bind_stuck, go_ok, go_exc, seq_nx, seq_rt, seq_exc, turn_nx, turn_rt, turn_exc, calm_ok', end_d, end_nx, end_exc, tru_bl, give, give_b, ders, der, arrD, List.getElem?_cons_zero, List.getElem?_cons_succ, List.set_cons_zero, List.set_cons_succ, if_true, if_false, Bool.false_eq_true, Bool.not_true, Bool.not_false, List.take_length, e_srtc, k_srtc, k_srt2, e_dnewT, e_dnewK, e_dget, k_dg1, e_dkeys, i_keys, e_setl, k_setl, e_isi, k_isi, e_rev, k_rev, e_tin, k_tinP, k_tinN, e_tget, k_tget, g_star, i_zip, is_int_non, is_int_bl, is_int_int, is_int_str, is_int_tup, is_int_lst, is_int_dct, is_str_non, is_str_bl, is_str_int, is_str_str, is_str_tup, is_str_lst, is_str_dct, is_bool_non, is_bool_bl, is_bool_int, is_bool_str, is_bool_tup, is_bool_lst, is_bool_dct, is_tuple_non, is_tuple_bl, is_tuple_int, is_tuple_str, is_tuple_tup, is_tuple_lst, is_tuple_dct, is_list_non, is_list_bl, is_list_int, is_list_str, is_list_tup, is_list_lst, is_list_dct, is_dict_non, is_dict_bl, is_dict_int, is_dict_str, is_dict_tup, is_dict_lst, is_dict_dct, bfD, len_s, len_l, len_t, c_eq_ii, c_ne_ii, c_lt_ii, c_le_ii, c_gt_ii, c_ge_ii, c_is_non, c_isn_non, noneD, Int.cast_ofNat_Int, Int.reduceEq, Int.reduceLT, Int.reduceLE, decide_true, decide_false, kTup, kLst, pures, sizeLine_eq, Nat.reduceLeDiff, g_tupq, idx_q0, idx_q1, is_tuple_q, len_q, k_ivq, e_xis, e_xfld, s_rais, k_rais1, k_rais2, s_try, cat_nx, cat_rt, cat_exc, out_rt, out_nx] $[$loc]?)
/-- small enough for both looks -/
def Sm9 (d : D) : Prop := ∀ t b, d = .tup [.int t, .int b] → b.natAbs < 2 ^ 1000
theorem Sm4.s {d : D} (h : Sm4 d) : Sm9 d := fun t b e => Nat.lt_of_lt_of_le (h t b e) (Nat.pow_le_pow_right (n := 2) (i := 4) (j := 1000) (by decide) (by decide))
theorem Sm9.f {d : D} (h : Sm9 d) : SmF d := fun t b e => szB (n := 1000) (h t b e) (by decide)
theorem low_same (i : Int) (j : Nat) (hj : 0 < j) : cmpD .Eq (qD (mkRat i j)) (.tup [.int i, .int j]) = some (decide (Nat.gcd i.natAbs j = 1)) := by
  have e : cmpD .Eq (qD (mkRat i j)) (.tup [.int i, .int j]) = some (((mkRat i j).num == i) && ((((mkRat i j).den : Int) == (j : Int)) && true)) := by
    show eqO (qD (mkRat i j)) (.tup [.int i, .int j]) = _
    unfold eqO
    rw [if_pos (show dep (qD (mkRat i j)) ≤ 64 ∧ dep (.tup [.int i, .int j]) ≤ 64 from ⟨by simp [qD, dep, deps], by simp [dep, deps]⟩)]
    simp only [qD, eqD, eqDs]
  rw [e]
  congr 1
  rw [Rat.num_mkRat, Rat.den_mkRat]
  have g0 : 0 < Nat.gcd i.natAbs j := Nat.gcd_pos_of_pos_right _ hj
  have g1 := Nat.gcd_dvd_left i.natAbs j
  have g2 := Nat.gcd_dvd_right i.natAbs j
  by_cases h : Nat.gcd i.natAbs j = 1
  · have h2 : j.gcd i.natAbs = 1 := by rw [Nat.gcd_comm]; exact h
    simp [h, h2, Nat.ne_of_gt hj]
  · have : decide (Nat.gcd i.natAbs j = 1) = false := by simpa using h
    rw [this, Bool.and_eq_false_iff]
    right
    rw [Bool.and_true, beq_eq_false_iff_ne]
    intro z
    rw [if_neg (Nat.ne_of_gt hj)] at z
    have z2 : j / i.natAbs.gcd j = j := by
      have := z
      simp only [Nat.gcd_comm] at this ⊢
      omega
    obtain ⟨c, hc⟩ := g2
    have : j / i.natAbs.gcd j = c := Nat.div_eq_of_eq_mul_right g0 hc
    rw [this] at z2
    subst z2
    have hc2 : c * 1 = c * (i.natAbs.gcd c) := by rw [Nat.mul_one, Nat.mul_comm]; exact hc
    exact h (Nat.eq_of_mul_eq_mul_left hj hc2).symm
section
variable {t : Tbl} (T : Sub TC t) (L : Sub TL02 t) (k : Nat) {st : Sto}
include T L
theorem look_ok (d : D) (h : Sm9 d) : Fn t (k + 2) 107 [.d d] st = .ok (.d (.bl (isFrD d))) st := by
  rw [fn_at L rfl]
  cases d with
  | tup xs =>
    have hl : ∀ (en : En) (hi : 1 < en.length), lcLoop [] (lcG (Fn t (k + 1)) (.name 1)) (evT (Fn t (k + 1)) .nil) (evE (Fn t (k + 1)) I107e1) en xs [] st = .ok (.d (.lst (xs.map fun d => .bl (isNumD d)))) st := by
      intro en hi
      have := lc_enc (e := id) (f := fun d => .bl (isNumD d)) (g := lcG (Fn t (k + 1)) (.name 1)) (t := evT (Fn t (k + 1)) .nil) (el := evE (Fn t (k + 1)) I107e1) (en := en) (st := st) xs [] fun x hx => ⟨en.set 1 (some (.d x)), by simp only [lc_g, g_name, id], rfl, by
        simp! only [I107e1, List.getElem?_set_self hi]
        cases x <;> simp! only [isNumD, List.getElem?_set_self hi]⟩
      rw [List.map_id] at this
      exact this
    simp! only [runF, startE, I107]
    by_cases h2 : xs.length = 2
    · obtain ⟨a, b, rfl⟩ : ∃ a b, xs = [a, b] := by
        match xs, h2 with
        | [a, b], _ => exact ⟨a, b, rfl⟩
      simp! only [wipeE, hl _ (show 1 < [some (Vv.d (.tup [a, b])), none].length by simp), allD, bools]
      cases a <;> simp! only [isNumD, isFrD, List.all_cons, List.all_nil, Bool.false_and, id]
      cases b <;> simp! only [isNumD, isFrD, List.all_cons, List.all_nil, Bool.false_and, Bool.and_true, Bool.true_and, id]
      rename_i i j
      have x0 : idxD (.tup [.int i, .int j]) (.int 0) = some (.int i) := rfl
      have x1 : idxD (.tup [.int i, .int j]) (.int 1) = some (.int j) := rfl
      by_cases hj : 0 < j
      · obtain ⟨j, rfl⟩ : ∃ m : Nat, j = m := ⟨j.toNat, by omega⟩
        have hj2 := h i j rfl
        simp! only [hj, x0, x1, low_ok T k st i j (n := 1000) (by omega) (by simpa using hj2) (by decide), low_same i j (by omega), Int.natAbs_natCast, Bool.true_and]
      · simp! only [hj, x1, Bool.false_and]
    · have e : isFrD (.tup xs) = false := by
        match xs, h2 with
        | [], _ => rfl
        | [_], _ => simp [isFrD]
        | _ :: _ :: _ :: _, _ => simp [isFrD]
      have h3 : ¬ ((xs.length : Int) = 2) := by omega
      simp! only [h3, e]
  | _ => simp! only [runF, startE, I107, isFrD]
end
end TW
namespace TW
open PySem PySem.Spec PyProof.Rows L2
local macro_rules
  | `(tactic| simp! only [] $[$loc]?) => `(tactic| simp only [List.map_cons, List.map_nil, List.length_cons, List.length_nil, List.replicate, List.cons_append, List.nil_append, List.append_nil, Nat.reduceAdd, Nat.reduceSub, Nat.zero_add, e_var, e_con, e_bin, k_bin1, k_bin2, e_neg, k_neg, e_not, k_not, e_and, k_and, e_or, k_or, e_cmp, k_cmp1, k_cmp2, e_chain, k_ch1, k_ch2, e_ite, k_ite, e_call, k_call1, k_call2, e_blt, k_blt, e_meth, k_meth1, k_meth2, e_tup, e_lst, e_dct0, e_dcd, e_idx, k_idx1, k_idx2, e_slc, k_slc1, k_slc2, k_slc3, o_none, o_some, k_o, e_new, k_new, e_lc, k_lc, lc_g, es_nil, es_cons, k_es1, k_es2, t_nil, t_cons, k_t, i_val, i_range, i_enum, k_ent, k_enl, enumD, s_par, k_par, setAll, k_body, k_turn, k_ivl, k_ivt, k_ivs, g_name, g_tup, g_sub, k_sub1, gs_nil, gs_cons, k_gs, s_asg, k_asg1, k_nx, s_expr, k_expr, s_ret, k_ret, s_iff, k_if, s_for, k_for, s_aug, s_pass, ss_nil, ss_cons, k_ss, bind_ok, bind_exc, bind_stuck, go_ok, go_exc, seq_nx, seq_rt, seq_exc, turn_nx, turn_rt, turn_exc, calm_ok', end_d, end_nx, end_exc, tru_bl, give, give_b, ders, der, arrD, List.getElem?_cons_zero, List.getElem?_cons_succ, List.set_cons_zero, List.set_cons_succ, if_true, if_false, Bool.false_eq_true, Bool.not_true, Bool.not_false, List.take_length, e_srtc, k_srtc, k_srt2, e_dnewT, e_dnewK, e_dget, k_dg1, e_dkeys, i_keys, e_setl, k_setl, e_isi, k_isi, e_rev, k_rev, e_tin, k_tinP, k_tinN, e_tget, k_tget, g_star, i_zip, is_int_non, is_int_bl, is_int_int, is_int_str, is_int_tup, is_int_lst, is_int_dct, is_str_non, is_str_bl, is_str_int, is_str_str, is_str_tup, is_str_lst, is_str_dct, is_bool_non, is_bool_bl, is_bool_int, is_bool_str, is_bool_tup, is_bool_lst, is_bool_dct, is_tuple_non, is_tuple_bl, is_tuple_int, is_tuple_str, is_tuple_tup, is_tuple_lst, is_tuple_dct, is_list_non, is_list_bl, is_list_int, is_list_str, is_list_tup, is_list_lst, is_list_dct, is_dict_non, is_dict_bl, is_dict_int, is_dict_str, is_dict_tup, is_dict_lst, is_dict_dct, bfD, len_s, len_l, len_t, c_eq_ii, c_ne_ii, c_lt_ii, c_le_ii, c_gt_ii, c_ge_ii, c_is_non, c_isn_non, noneD, Int.cast_ofNat_Int, Int.reduceEq, Int.reduceLT, Int.reduceLE, decide_true, decide_false, kTup, kLst, pures, sizeLine_eq, Nat.reduceLeDiff, g_tupq, idx_q0, idx_q1, is_tuple_q, len_q, k_ivq, e_xis, e_xfld, s_rais, k_rais1, k_rais2, s_try, cat_nx, cat_rt, cat_exc, out_rt, out_nx] $[$loc]?)
  | `(tactic| simp! only [$ls,*] $[$loc]?) => `(tactic| simp only [$ls,*, List.map_cons, List.map_nil, List.length_cons, List.length_nil, List.replicate, List.cons_append, List.nil_append, List.append_nil, Nat.reduceAdd, Nat.reduceSub, Nat.zero_add, e_var, e_con, e_bin, k_bin1, k_bin2, e_neg, k_neg, e_not, k_not, e_and, k_and, e_or, k_or, e_cmp, k_cmp1, k_cmp2, e_chain, k_ch1, k_ch2, e_ite, k_ite, e_call, k_call1, k_call2, e_blt, k_blt, e_meth, k_meth1, k_meth2, e_tup, e_lst, e_dct0, e_dcd, e_idx, k_idx1, k_idx2, e_slc, k_slc1, k_slc2, k_slc3, o_none, o_some, k_o, e_new, k_new, e_lc, k_lc, lc_g, es_nil, es_cons, k_es1, k_es2, t_nil, t_cons, k_t, i_val, i_range, i_enum, k_ent, k_enl, enumD, s_par, k_par, setAll, k_body, k_turn, k_ivl, k_ivt, k_ivs, g_name, g_tup, g_sub, k_sub1, gs_nil, gs_cons, k_gs, s_asg, k_asg1, k_nx, s_expr, k_expr, s_ret, k_ret, s_iff, k_if, s_for, k_for, s_aug, s_pass, ss_nil, ss_cons, k_ss, bind_ok, bind_exc, bind_stuck, go_ok, go_exc, seq_nx, seq_rt, seq_exc, turn_nx, turn_rt, turn_exc, calm_ok', end_d, end_nx, end_exc, tru_bl, give, give_b, ders, der, arrD, List.getElem?_cons_zero, List.getElem?_cons_succ, List.set_cons_zero, List.set_cons_succ, if_true, if_false, Bool.false_eq_true, Bool.not_true, Bool.not_false, List.take_length, e_srtc, k_srtc, k_srt2, e_dnewT, e_dnewK, e_dget, k_dg1, e_dkeys, i_keys, e_setl, k_setl, e_isi, k_isi, e_rev, k_rev, e_tin, k_tinP, k_tinN, e_tget, k_tget, g_star, i_zip, is_int_non, is_int_bl, is_int_int, is_int_str, is_int_tup, is_int_lst, is_int_dct, is_str_non, is_str_bl, is_str_int, is_str_str, is_str_tup, is_str_lst, is_str_dct, is_bool_non, is_bool_bl, is_bool_int, is_bool_str, is_bool_tup, is_bool_lst, is_bool_dct, is_tuple_non, is_tuple_bl, is_tuple_int, is_tuple_str, is_tuple_tup, is_tuple_lst, is_tuple_dct, is_list_non, is_list_bl, is_list_int, is_list_str, is_list_tup, is_list_lst, is_list_dct, is_dict_non, is_dict_bl, is_dict_int, is_dict_str, is_dict_tup, is_dict_lst, is_dict_dct, bfD, len_s, len_l, len_t, c_eq_ii, c_ne_ii, c_lt_ii, c_le_ii, c_gt_ii, c_ge_ii, c_is_non, c_isn_non, noneD, Int.cast_ofNat_Int, Int.reduceEq, Int.reduceLT, Int.reduceLE, decide_true, decide_false, kTup, kLst, pures, sizeLine_eq, Nat.reduceLeDiff, g_tupq, idx_q0, idx_q1, is_tuple_q, len_q, k_ivq, e_xis, e_xfld, s_rais, k_rais1, k_rais2, s_try, cat_nx, cat_rt, cat_exc, out_rt, out_nx] $[$loc]?)
theorem ne_self (s : Str) : cmpD .NotEq (.str s) (.str s) = some false := by simp [cmpD, eqO1, dep, eqD, notO]
theorem ne_told : cmpD .NotEq (.str "told") (.str ⟨#[116, 111, 108, 100]⟩) = some false := ne_self _
theorem ne_num (i : Int) : cmpD .NotEq (.lst [.str "number", .int i]) (.lst [.str ⟨#[110, 117, 109, 98, 101, 114]⟩, .int i]) = some false := by
  have e : (Str.ofString "number") = ⟨#[110, 117, 109, 98, 101, 114]⟩ := rfl
  rw [e]
  simp [cmpD, eqO1, dep, deps, eqD, eqDs, notO]
theorem ix2_0 (x y : D) : idxD (.tup [x, y]) (.int 0) = some x := id rfl
theorem ix2_1 (x y : D) : idxD (.tup [x, y]) (.int 1) = some y := id rfl
theorem lx2_0 (x y : D) : idxD (.lst [x, y]) (.int 0) = some x := id rfl
theorem lx2_1 (x y : D) : idxD (.lst [x, y]) (.int 1) = some y := id rfl
theorem int_b (b : Bool) : intD [.bl b] = some (.int (if b = true then 1 else 0)) := id rfl
theorem md_of {m r : Nat} (h : m % 6 = r) : binD .Mod (.int m) (.int 6) = some (.int r) := by
  rw [mod_pos (by decide)]
  congr 2
  omega
section
variable {t : Tbl} (L : Sub TL02 t) (k : Nat) {st : Sto} {x0 : Option Vv} {H Th U Lw O M W N : D}
include L
/-- a mode of the first door -/
theorem body_0 (m : Nat) (hm : m < 12) (h6 : m % 6 = 0) (v : D) (rp : Str) (o10 o11 o12 o13 o14 : Option Vv) (told : Fn t (k + 4) (doorI m) [.d U, .d Lw] st = .ok (.d v) st) (x1 : Fn t (k + 4) (doorI m) [.d W, .d Lw] st = .exc (nnX 0) st)
    (x2 : Fn t (k + 4) (doorI m) [.d U, .d N] st = .exc (nnX 1) st) (x3 : Fn t (k + 4) (doorI m) [.d W, .d N] st = .exc (nnX 0) st) (hr : reprD [.lst [.str "told", v]] = some (.str rp)) :
    ∃ p10 p11 p12, evSs (Fn t (k + 5)) I108b1 [x0, some (.d H), some (.d Th), some (.d U), some (.d Lw), some (.d O), some (.d M), some (.d W), some (.d N), some (.d (.int m)), o10, o11, o12, o13, o14] st =
      .nx [x0, some (.d H), some (.d Th), some (.d U), some (.d Lw), some (.d O), some (.d M), some (.d W), some (.d N), some (.d (.int m)), p10, p11, p12, o13, o14] st := by
  have e6 : binD .Mod (.int m) (.int 6) = some (.int 0) := md_of h6
  have a0 := asked_told L k st m hm U Lw v told
  have a1 := asked_exc L k st 0 m hm W Lw x1
  have a2 := asked_exc L k st 1 m hm U N x2
  have a3 := asked_exc L k st 0 m hm W N x3
  refine ⟨some (.d (.tup [U, Lw])), some (.d (.tup [W, N])), some (.d (.lst [.str "told", v])), ?_⟩
  simp! only [I108b1, e6, int_b, lx2_1, lx2_0, ix2_0, ix2_1, a0, ne_told, a1, ne_num 0, a2, a3, ne_num 1, hr, ne_self]
theorem body_4 (m : Nat) (hm : m < 12) (h6 : m % 6 = 4) (G : D) (tn : Int) (hT : idxD Th (.int 0) = some (.int tn)) (hG : G = if tn = 0 then .tup [.int 1, .int 1] else Th) (v : D) (rp : Str) (o10 o11 o12 o13 o14 : Option Vv) (told : Fn t (k + 4) (doorI m) [.d H, .d G] st = .ok (.d v) st) (x1 : Fn t (k + 4) (doorI m) [.d O, .d G] st = .exc (nnX 0) st)
    (x2 : Fn t (k + 4) (doorI m) [.d H, .d M] st = .exc (nnX 1) st) (x3 : Fn t (k + 4) (doorI m) [.d O, .d M] st = .exc (nnX 0) st) (x4 : Fn t (k + 4) (doorI m) [.d H, .d (.tup [.int 0, .int 1])] st = .exc (nnX 1) st) (hr : reprD [.lst [.str "told", v]] = some (.str rp)) :
    ∃ p10 p11 p12, evSs (Fn t (k + 5)) I108b1 [x0, some (.d H), some (.d Th), some (.d U), some (.d Lw), some (.d O), some (.d M), some (.d W), some (.d N), some (.d (.int m)), o10, o11, o12, o13, o14] st =
      .nx [x0, some (.d H), some (.d Th), some (.d U), some (.d Lw), some (.d O), some (.d M), some (.d W), some (.d N), some (.d (.int m)), p10, p11, p12, o13, o14] st := by
  have e6 : binD .Mod (.int m) (.int 6) = some (.int 4) := md_of h6
  have a0 := asked_told L k st m hm H G v told
  have a1 := asked_exc L k st 0 m hm O G x1
  have a2 := asked_exc L k st 1 m hm H M x2
  have a3 := asked_exc L k st 0 m hm O M x3
  have a4 := asked_exc L k st 1 m hm H (.tup [.int 0, .int 1]) x4
  refine ⟨some (.d (.tup [H, G])), some (.d (.tup [O, M])), some (.d (.lst [.str "told", v])), ?_⟩
  by_cases ht : tn = 0
  · rw [if_pos ht] at hG
    subst hG
    subst ht
    simp! only [I108b1, e6, int_b, lx2_1, lx2_0, ix2_0, ix2_1, hT, a0, ne_told, a1, ne_num 0, a2, a3, a4, ne_num 1, hr, ne_self]
  · rw [if_neg ht] at hG
    subst hG
    simp! only [I108b1, e6, int_b, lx2_1, lx2_0, ix2_0, ix2_1, hT, ht, a0, ne_told, a1, ne_num 0, a2, a3, a4, ne_num 1, hr, ne_self]
theorem body_x (m : Nat) (hm : m < 12) (h0 : m % 6 ≠ 0) (h4 : m % 6 ≠ 4) (v : D) (rp : Str) (o10 o11 o12 o13 o14 : Option Vv) (told : Fn t (k + 4) (doorI m) [.d H, .d Th] st = .ok (.d v) st) (x1 : Fn t (k + 4) (doorI m) [.d O, .d Th] st = .exc (nnX 0) st)
    (x2 : Fn t (k + 4) (doorI m) [.d H, .d M] st = .exc (nnX 1) st) (x3 : Fn t (k + 4) (doorI m) [.d O, .d M] st = .exc (nnX 0) st) (hr : reprD [.lst [.str "told", v]] = some (.str rp)) :
    ∃ p10 p11 p12, evSs (Fn t (k + 5)) I108b1 [x0, some (.d H), some (.d Th), some (.d U), some (.d Lw), some (.d O), some (.d M), some (.d W), some (.d N), some (.d (.int m)), o10, o11, o12, o13, o14] st =
      .nx [x0, some (.d H), some (.d Th), some (.d U), some (.d Lw), some (.d O), some (.d M), some (.d W), some (.d N), some (.d (.int m)), p10, p11, p12, o13, o14] st := by
  have e6 : binD .Mod (.int m) (.int 6) = some (.int (m % 6 : Nat)) := md_of rfl
  have n0 : ¬ (((m % 6 : Nat) : Int) = 0) := by omega
  have n4 : ¬ (((m % 6 : Nat) : Int) = 4) := by omega
  have a0 := asked_told L k st m hm H Th v told
  have a1 := asked_exc L k st 0 m hm O Th x1
  have a2 := asked_exc L k st 1 m hm H M x2
  have a3 := asked_exc L k st 0 m hm O M x3
  refine ⟨some (.d (.tup [H, Th])), some (.d (.tup [O, M])), some (.d (.lst [.str "told", v])), ?_⟩
  generalize m % 6 = r at e6 n0 n4
  simp! only [I108b1, e6, n0, n4, int_b, lx2_1, lx2_0, ix2_0, ix2_1, a0, ne_told, a1, ne_num 0, a2, a3, ne_num 1, hr, ne_self]
end
end TW
namespace TW
open PySem PySem.Spec PyProof.Rows L2
theorem sm_fit {n : Nat} {i : Int} (h : i.natAbs < 2 ^ n) (hn : n < 1900) : decide (i.natAbs.log2 < 1920) = true := by
  have := log2_le h
  simp
  omega
theorem repr_of {d : D} (h : smD d = true ∧ wD d ≤ 16000000 ∧ depT d ≤ 64 ∧ ((toPyT d).hasDict = true → noL d = true)) : ∃ rp, reprD [d] = some (.str rp) := ⟨(toPyT d).shown, by simp only [reprD]; rw [if_pos h]⟩
theorem repr_q {n : Nat} {q : Rat} (h : Fit n q) (hn : n < 1900) : ∃ rp, reprD [.lst [.str "told", qD q]] = some (.str rp) := by
  have l1 := log2_le h.1
  have l2 := log2_le h.2
  refine repr_of ⟨?_, ?_, ?_, ?_⟩
  · simp only [smD, smDs, qD, sm_fit h.1 hn, Bool.true_and, Bool.and_true]
    exact sm_fit (i := (q.den : Int)) (by simpa using h.2) hn
  · have e : (Str.ofString "told").length = 4 := rfl
    simp only [wD, wDs, qD, Int.natAbs_natCast, e]
    omega
  · simp only [depT, depTs, qD]; omega
  · intro z
    exact absurd z (by simp [toPyT, toPyTs, qD, PyData.hasDict, PyData.hasDictAll])
theorem repr_b (b : Bool) : ∃ rp, reprD [.lst [.str "told", .bl b]] = some (.str rp) := by
  refine repr_of ⟨?_, ?_, ?_, ?_⟩
  · rfl
  · have e : (Str.ofString "told").length = 4 := rfl
    simp only [wD, wDs, e]; omega
  · simp only [depT, depTs]; omega
  · intro z
    exact absurd z (by simp [toPyT, toPyTs, PyData.hasDict, PyData.hasDictAll])
section
variable {t : Tbl} (T : Sub TC t) (L : Sub TL02 t) (k : Nat) {st : Sto} {x0 : Option Vv} {a b : Rat} {u l : Int} {O M W N : D}
include T L
theorem mode_ok (ha : Fit 211 a) (hb : Fit 211 b) (hl0 : l ≠ 0) (hl : l.natAbs < 2 ^ 211) (hu : u.natAbs < 2 ^ 211) (o1 : isFrD O = false) (o2 : Sm9 O) (m1 : isFrD M = false) (m2 : Sm9 M) (w1 : isNumD W = false) (n1 : N = .int 0 ∨ isNumD N = false) (m : Nat) (hm : m < 12) (o10 o11 o12 o13 o14 : Option Vv) :
    ∃ p10 p11 p12, evSs (Fn t (k + 5)) I108b1 [x0, some (.d (qD a)), some (.d (qD b)), some (.d (.int u)), some (.d (.int l)), some (.d O), some (.d M), some (.d W), some (.d N), some (.d (.int m)), o10, o11, o12, o13, o14] st =
      .nx [x0, some (.d (qD a)), some (.d (qD b)), some (.d (.int u)), some (.d (.int l)), some (.d O), some (.d M), some (.d W), some (.d N), some (.d (.int m)), p10, p11, p12, o13, o14] st := by
  have sq : ∀ {q : Rat}, Fit 211 q → SmF (qD q) := fun {q} h t' b' e => by
    simp only [qD, D.tup.injEq, List.cons.injEq, D.int.injEq, and_true] at e
    have := h.2
    have e2 : b'.natAbs = q.den := by omega
    rw [e2]
    exact szB h.2 (by decide)
  have y0 : ∀ x : D, Fn t (k + 3) 6 [.d O, .d x] st = .exc (nnX 0) st := fun x => both_x0 T k st O x o2.f o1
  have y1 : Fn t (k + 3) 6 [.d (qD a), .d M] st = .exc (nnX 1) st := both_x1 T k st (qD a) M (sq ha) m2.f (isFrD_q a) m1
  by_cases h0 : m % 6 = 0
  · have dI : doorI m = 5 := by unfold doorI; rw [if_pos h0]
    have f := fraction_ok T (k + 1) st u l hl0 hl (by decide)
    have fit : Fit 211 (Rat.divInt u l) := by
      refine ⟨?_, ?_⟩
      · rw [Rat.num_divInt]
        rcases natAbs_div_le (l.sign * u) (l.gcd u) with h | h
        · rw [Int.natAbs_mul] at h
          have : l.sign.natAbs ≤ 1 := by rw [Int.natAbs_sign]; split <;> omega
          have := Nat.mul_le_mul_right u.natAbs this
          omega
        · have := Int.gcd_pos_of_ne_zero_left u hl0
          omega
      · rw [Rat.den_divInt, if_neg hl0]
        exact Nat.lt_of_le_of_lt (Nat.div_le_self _ _) hl
    obtain ⟨rp, hr⟩ := repr_q fit (by decide)
    refine body_0 L k m hm h0 _ rp o10 o11 o12 o13 o14 (by rw [dI]; exact f) (by rw [dI]; exact fraction_x0 T (k + 1) st W _ w1) ?_ (by rw [dI]; exact fraction_x0 T (k + 1) st W _ w1) hr
    rw [dI]
    rcases n1 with rfl | n1
    · exact fraction_x2 T (k + 1) st u
    · exact fraction_x1 T (k + 1) st u N n1
  · by_cases h4 : m % 6 = 4
    · have dI : doorI m = 10 := by unfold doorI; rw [if_neg h0, h4]
      by_cases hz : b.num = 0
      · have f := over_ok T k st ha (b := 1) (m := 4) ⟨by decide, by decide⟩ (by decide) (by decide)
        obtain ⟨rp, hr⟩ := repr_q (ha.div (b := 1) (m := 4) ⟨by decide, by decide⟩) (by decide)
        exact body_4 L k m hm h4 (qD 1) b.num rfl (by rw [if_pos hz]; rfl) _ rp o10 o11 o12 o13 o14 (by rw [dI]; exact f) (by rw [dI]; exact over_x T k st 0 _ _ (y0 _)) (by rw [dI]; exact over_x T k st 1 _ _ y1) (by rw [dI]; exact over_x T k st 0 _ _ (y0 _)) (by rw [dI]; exact over_0 T k st ha (by decide)) hr
      · have hb0 : b ≠ 0 := fun z => hz (by rw [z]; rfl)
        have f := over_ok T k st ha hb (by decide) hb0
        obtain ⟨rp, hr⟩ := repr_q (ha.div hb) (by decide)
        exact body_4 L k m hm h4 (qD b) b.num rfl (by rw [if_neg hz]) _ rp o10 o11 o12 o13 o14 (by rw [dI]; exact f) (by rw [dI]; exact over_x T k st 0 _ _ (y0 _)) (by rw [dI]; exact over_x T k st 1 _ _ y1) (by rw [dI]; exact over_x T k st 0 _ _ (y0 _)) (by rw [dI]; exact over_0 T k st ha (by decide)) hr
    · have : m % 6 = 1 ∨ m % 6 = 2 ∨ m % 6 = 3 ∨ m % 6 = 5 := by omega
      rcases this with h | h | h | h
      · have dI : doorI m = 7 := by unfold doorI; rw [if_neg h0, h]
        obtain ⟨rp, hr⟩ := repr_q (ha.add hb) (by decide)
        exact body_x L k m hm h0 h4 _ rp o10 o11 o12 o13 o14 (by rw [dI]; exact plus_ok T k st ha hb (by decide)) (by rw [dI]; exact plus_x T k st 0 _ _ (y0 _)) (by rw [dI]; exact plus_x T k st 1 _ _ y1) (by rw [dI]; exact plus_x T k st 0 _ _ (y0 _)) hr
      · have dI : doorI m = 8 := by unfold doorI; rw [if_neg h0, h]
        obtain ⟨rp, hr⟩ := repr_q (ha.sub hb) (by decide)
        exact body_x L k m hm h0 h4 _ rp o10 o11 o12 o13 o14 (by rw [dI]; exact minus_ok T k st ha hb (by decide)) (by rw [dI]; exact minus_x T k st 0 _ _ (y0 _)) (by rw [dI]; exact minus_x T k st 1 _ _ y1) (by rw [dI]; exact minus_x T k st 0 _ _ (y0 _)) hr
      · have dI : doorI m = 9 := by unfold doorI; rw [if_neg h0, h]
        obtain ⟨rp, hr⟩ := repr_q (ha.mul hb) (by decide)
        exact body_x L k m hm h0 h4 _ rp o10 o11 o12 o13 o14 (by rw [dI]; exact times_ok T k st ha hb (by decide)) (by rw [dI]; exact times_x T k st 0 _ _ (y0 _)) (by rw [dI]; exact times_x T k st 1 _ _ y1) (by rw [dI]; exact times_x T k st 0 _ _ (y0 _)) hr
      · have dI : doorI m = 11 := by unfold doorI; rw [if_neg h0, h]
        obtain ⟨rp, hr⟩ := repr_b (decide (a < b))
        exact body_x L k m hm h0 h4 _ rp o10 o11 o12 o13 o14 (by rw [dI]; exact below_ok T k st ha hb (by decide)) (by rw [dI]; exact below_x T k st 0 _ _ (y0 _)) (by rw [dI]; exact below_x T k st 1 _ _ y1) (by rw [dI]; exact below_x T k st 0 _ _ (y0 _)) hr
end
end TW
namespace TW
open PySem PySem.Spec PyProof.Rows L2
local macro_rules
  | `(tactic| simp! only [] $[$loc]?) => `(tactic| simp only [List.map_cons, List.map_nil, List.length_cons, List.length_nil, List.replicate, List.cons_append, List.nil_append, List.append_nil, Nat.reduceAdd, Nat.reduceSub, Nat.zero_add, e_var, e_con, e_bin, k_bin1, k_bin2, e_neg, k_neg, e_not, k_not, e_and, k_and, e_or, k_or, e_cmp, k_cmp1, k_cmp2, e_chain, k_ch1, k_ch2, e_ite, k_ite, e_call, k_call1, k_call2, e_blt, k_blt, e_meth, k_meth1, k_meth2, e_tup, e_lst, e_dct0, e_dcd, e_idx, k_idx1, k_idx2, e_slc, k_slc1, k_slc2, k_slc3, o_none, o_some, k_o, e_new, k_new, e_lc, k_lc, lc_g, es_nil, es_cons, k_es1, k_es2, t_nil, t_cons, k_t, i_val, i_range, i_enum, k_ent, k_enl, enumD, s_par, k_par, setAll, k_body, k_turn, k_ivl, k_ivt, k_ivs, g_name, g_tup, g_sub, k_sub1, gs_nil, gs_cons, k_gs, s_asg, k_asg1, k_nx, s_expr, k_expr, s_ret, k_ret, s_iff, k_if, s_for, k_for, s_aug, s_pass, ss_nil, ss_cons, k_ss, bind_ok, bind_exc, bind_stuck, go_ok, go_exc, seq_nx, seq_rt, seq_exc, turn_nx, turn_rt, turn_exc, calm_ok', end_d, end_nx, end_exc, tru_bl, give, give_b, ders, der, arrD, List.getElem?_cons_zero, List.getElem?_cons_succ, List.set_cons_zero, List.set_cons_succ, if_true, if_false, Bool.false_eq_true, Bool.not_true, Bool.not_false, List.take_length, e_srtc, k_srtc, k_srt2, e_dnewT, e_dnewK, e_dget, k_dg1, e_dkeys, i_keys, e_setl, k_setl, e_isi, k_isi, e_rev, k_rev, e_tin, k_tinP, k_tinN, e_tget, k_tget, g_star, i_zip, is_int_non, is_int_bl, is_int_int, is_int_str, is_int_tup, is_int_lst, is_int_dct, is_str_non, is_str_bl, is_str_int, is_str_str, is_str_tup, is_str_lst, is_str_dct, is_bool_non, is_bool_bl, is_bool_int, is_bool_str, is_bool_tup, is_bool_lst, is_bool_dct, is_tuple_non, is_tuple_bl, is_tuple_int, is_tuple_str, is_tuple_tup, is_tuple_lst, is_tuple_dct, is_list_non, is_list_bl, is_list_int, is_list_str, is_list_tup, is_list_lst, is_list_dct, is_dict_non, is_dict_bl, is_dict_int, is_dict_str, is_dict_tup, is_dict_lst, is_dict_dct, bfD, len_s, len_l, len_t, c_eq_ii, c_ne_ii, c_lt_ii, c_le_ii, c_gt_ii, c_ge_ii, c_is_non, c_isn_non, noneD, Int.cast_ofNat_Int, Int.reduceEq, Int.reduceLT, Int.reduceLE, decide_true, decide_false, kTup, kLst, pures, sizeLine_eq, Nat.reduceLeDiff, g_tupq, idx_q0, idx_q1, is_tuple_q, len_q, k_ivq, e_xis, e_xfld, s_rais, k_rais1, k_rais2, s_try, cat_nx, cat_rt, cat_exc, out_rt, out_nx] $[$loc]?)
  | `(tactic| simp! only [$ls,*] $[$loc]?) => `(tactic| simp only [$ls,*, List.map_cons, List.map_nil, List.length_cons, List.length_nil, List.replicate, List.cons_append, List.nil_append, List.append_nil, Nat.reduceAdd, Nat.reduceSub, Nat.zero_add, e_var, e_con, e_bin, k_bin1, k_bin2, e_neg, k_neg, e_not, k_not, e_and, k_and, e_or, k_or, e_cmp, k_cmp1, k_cmp2, e_chain, k_ch1, k_ch2, e_ite, k_ite, e_call, k_call1, k_call2, e_blt, k_blt, e_meth, k_meth1, k_meth2, e_tup, e_lst, e_dct0, e_dcd, e_idx, k_idx1, k_idx2, e_slc, k_slc1, k_slc2, k_slc3, o_none, o_some, k_o, e_new, k_new, e_lc, k_lc, lc_g, es_nil, es_cons, k_es1, k_es2, t_nil, t_cons, k_t, i_val, i_range, i_enum, k_ent, k_enl, enumD, s_par, k_par, setAll, k_body, k_turn, k_ivl, k_ivt, k_ivs, g_name, g_tup, g_sub, k_sub1, gs_nil, gs_cons, k_gs, s_asg, k_asg1, k_nx, s_expr, k_expr, s_ret, k_ret, s_iff, k_if, s_for, k_for, s_aug, s_pass, ss_nil, ss_cons, k_ss, bind_ok, bind_exc, bind_stuck, go_ok, go_exc, seq_nx, seq_rt, seq_exc, turn_nx, turn_rt, turn_exc, calm_ok', end_d, end_nx, end_exc, tru_bl, give, give_b, ders, der, arrD, List.getElem?_cons_zero, List.getElem?_cons_succ, List.set_cons_zero, List.set_cons_succ, if_true, if_false, Bool.false_eq_true, Bool.not_true, Bool.not_false, List.take_length, e_srtc, k_srtc, k_srt2, e_dnewT, e_dnewK, e_dget, k_dg1, e_dkeys, i_keys, e_setl, k_setl, e_isi, k_isi, e_rev, k_rev, e_tin, k_tinP, k_tinN, e_tget, k_tget, g_star, i_zip, is_int_non, is_int_bl, is_int_int, is_int_str, is_int_tup, is_int_lst, is_int_dct, is_str_non, is_str_bl, is_str_int, is_str_str, is_str_tup, is_str_lst, is_str_dct, is_bool_non, is_bool_bl, is_bool_int, is_bool_str, is_bool_tup, is_bool_lst, is_bool_dct, is_tuple_non, is_tuple_bl, is_tuple_int, is_tuple_str, is_tuple_tup, is_tuple_lst, is_tuple_dct, is_list_non, is_list_bl, is_list_int, is_list_str, is_list_tup, is_list_lst, is_list_dct, is_dict_non, is_dict_bl, is_dict_int, is_dict_str, is_dict_tup, is_dict_lst, is_dict_dct, bfD, len_s, len_l, len_t, c_eq_ii, c_ne_ii, c_lt_ii, c_le_ii, c_gt_ii, c_ge_ii, c_is_non, c_isn_non, noneD, Int.cast_ofNat_Int, Int.reduceEq, Int.reduceLT, Int.reduceLE, decide_true, decide_false, kTup, kLst, pures, sizeLine_eq, Nat.reduceLeDiff, g_tupq, idx_q0, idx_q1, is_tuple_q, len_q, k_ivq, e_xis, e_xfld, s_rais, k_rais1, k_rais2, s_try, cat_nx, cat_rt, cat_exc, out_rt, out_nx] $[$loc]?)
section
variable (F : Fs)
def kLr1 (b : E) (en : En) (x : Vv) (st : Sto) : R Vv := (evE F b en st).bind fun y st => lrepV x y st
theorem e_lrep (a b en st) : evE F (.lrep a b) en st = (evE F a en st).bind (kLr1 F b en) := id rfl
theorem k_lr1 (b en x st) : kLr1 F b en x st = (evE F b en st).bind (lrepV x) := id rfl
end
theorem lrep2 (x : D) (st : Sto) : lrepV (.d (.lst [x])) (.d (.int 2)) st = .ok (.d (.lst [x, x])) st := id rfl
theorem ne_bb (b : Bool) : cmpD .NotEq (.lst [.bl b, .bl b]) (.lst [.bl b, .bl b]) = some false := by cases b <;> simp [cmpD, eqO1, dep, deps, eqD, eqDs, notO]
section
variable {t : Tbl} (T : Sub TC t) (L : Sub TL02 t) (k : Nat) {st : Sto}
include T L
theorem look_turn (x : D) (h : Sm9 x) {x0 x1 x2 x3 x4 x5 x6 x7 x8 x9 x10 x11 x12 x13 : Option Vv} : evSs (Fn t (k + 5)) I108b2 [x0, x1, x2, x3, x4, x5, x6, x7, x8, x9, x10, x11, x12, x13, some (.d x)] st = .nx [x0, x1, x2, x3, x4, x5, x6, x7, x8, x9, x10, x11, x12, x13, some (.d x)] st := by
  have i := is_fraction_ok T (k + 3) st x h.f
  have j := look_ok T L (k + 3) (st := st) x h
  simp! only [I108b2, e_lrep, k_lr1, i, j, lrep2, ne_bb]
theorem doors_ok {n : Nat} (P : PoolAt n st) : ∃ st', Fn t (k + 6) 108 [.ref n] st = .ok (.d (.bl true)) st' ∧ Drawn n st st' := by
  rw [fn_at L rfl]
  obtain ⟨a, s1, e1, d1, fa⟩ := one2_ok T L (k + 2) P
  have P1 := d1.pool P
  obtain ⟨b, s2, e2, d2, fb⟩ := one2_ok T L (k + 2) P1
  have P2 := d2.pool P1
  obtain ⟨u, s3, e3, d3, bu⟩ := number2_ok T L (k + 3) P2
  have P3 := d3.pool P2
  obtain ⟨l, s4, e4, d4, bl⟩ := number2_ok T L (k + 3) P3
  have P4 := d4.pool P3
  obtain ⟨O, s5, e5, d5, o1, o2⟩ := odd_fraction_ok T L (k + 3) P4
  have P5 := d5.pool P4
  obtain ⟨M, s6, e6, d6, m1, m2⟩ := odd_fraction_ok T L (k + 3) P5
  have P6 := d6.pool P5
  obtain ⟨W, s7, e7, d7, w1, w2⟩ := odd_number_ok T L (k + 3) P6
  have P7 := d7.pool P6
  obtain ⟨N0, s8, e8, d8, n1, n2⟩ := odd_number_ok T L (k + 3) P7
  have P8 := d8.pool P7
  obtain ⟨r, s9, e9, d9, l9⟩ := take_ok T (k + 4) P8 (many := 2) (b := 10) (by decide) (by decide) (by decide)
  have P9 := d9.pool P8
  have dd := (((((((d1.trans d2).trans d3).trans d4).trans d5).trans d6).trans d7).trans d8).trans d9
  obtain ⟨N, q1, q2⟩ := ixN (xs := [D.int 0, N0]) (r := r) (by simpa using l9)
  have hN : N = .int 0 ∨ isNumD N = false := by
    simp only [List.mem_cons, List.not_mem_nil, or_false] at q2
    rcases q2 with rfl | rfl
    · exact .inl rfl
    · exact .inr n1
  have p210 : (2 : Nat) ^ 211 = 2 * 2 ^ 210 := by decide
  have p1 : (1 : Nat) < 2 ^ 210 := by decide
  obtain ⟨lw, hlw⟩ : ∃ lw : Int, lw = 1 + (l.natAbs : Int) := ⟨_, rfl⟩
  have hl0 : lw ≠ 0 := by omega
  have hl : lw.natAbs < 2 ^ 211 := by omega
  refine ⟨s9, ?_, dd⟩
  -- the modes
  obtain ⟨en2, st2, f1, f2, o9, o10, o11, o12, rfl⟩ := for_invN (e := fun (i : Nat) => D.int i) (F := Fn t (k + 5)) (i := 9) (b := I108b1) (I := fun en s => s = s9 ∧ ∃ o9 o10 o11 o12, en = [some (.ref n), some (.d (qD a)), some (.d (qD b)), some (.d (.int u)), some (.d (.int lw)), some (.d O), some (.d M), some (.d W), some (.d N), o9, o10, o11, o12, none, none])
    (List.range 12) [some (.ref n), some (.d (qD a)), some (.d (qD b)), some (.d (.int u)), some (.d (.int lw)), some (.d O), some (.d M), some (.d W), some (.d N), none, none, none, none, none, none] s9 ⟨rfl, _, _, _, _, rfl⟩ (by
      rintro i hi en s ⟨rfl, o9, o10, o11, o12, rfl⟩
      obtain ⟨p10, p11, p12, z⟩ := mode_ok T L k (st := s) (x0 := some (.ref n)) fa fb hl0 hl (Nat.lt_trans bu (by omega)) o1 o2.s m1 m2.s w1 hN i (List.mem_range.mp hi) o10 o11 o12 none none
      exact ⟨_, _, z, rfl, _, _, _, _, rfl⟩)
  subst f2
  -- the looks
  obtain ⟨en3, st3, g1, g2, o14, rfl⟩ := for_invN (e := (id : D → D)) (F := Fn t (k + 5)) (i := 14) (b := I108b2) (I := fun en s => s = st2 ∧ ∃ o14, en = [some (.ref n), some (.d (qD a)), some (.d (qD b)), some (.d (.int u)), some (.d (.int lw)), some (.d O), some (.d M), some (.d W), some (.d N), o9, o10, o11, o12, some (.d (.lst [O, M, W, qD a, qD b, .int u, .lst [qD a], .tup [qD a, qD b]])), o14])
    [O, M, W, qD a, qD b, .int u, .lst [qD a], .tup [qD a, qD b], .tup [.int u, .int lw], .tup [.int a.num, .int (0 - a.den)]] [some (.ref n), some (.d (qD a)), some (.d (qD b)), some (.d (.int u)), some (.d (.int lw)), some (.d O), some (.d M), some (.d W), some (.d N), o9, o10, o11, o12, some (.d (.lst [O, M, W, qD a, qD b, .int u, .lst [qD a], .tup [qD a, qD b]])), none] st2 ⟨rfl, _, rfl⟩ (by
      rintro x hx en s ⟨rfl, o14, rfl⟩
      have sm : Sm9 x := by
        have sq : ∀ {q : Rat}, Fit 211 q → Sm9 (qD q) := fun {q} h t' b' e => by
          simp only [qD, D.tup.injEq, List.cons.injEq, D.int.injEq, and_true] at e
          have e2 : b'.natAbs = q.den := by omega
          rw [e2]
          exact Nat.lt_of_lt_of_le h.2 (Nat.pow_le_pow_right (by decide) (by decide))
        have big : (2 : Nat) ^ 211 ≤ 2 ^ 1000 := Nat.pow_le_pow_right (by decide) (by decide)
        simp only [List.mem_cons, List.not_mem_nil, or_false] at hx
        rcases hx with rfl | rfl | rfl | rfl | rfl | rfl | rfl | rfl | rfl | rfl
        · exact o2.s
        · exact m2.s
        · exact w2.s
        · exact sq fa
        · exact sq fb
        · exact fun _ _ e => nomatch e
        · exact fun _ _ e => nomatch e
        · exact fun _ _ e => by simp [qD] at e
        · intro t' b' e
          simp only [D.tup.injEq, List.cons.injEq, D.int.injEq, and_true] at e
          rw [← e.2]
          exact Nat.lt_of_lt_of_le hl big
        · intro t' b' e
          simp only [D.tup.injEq, List.cons.injEq, D.int.injEq, and_true] at e
          have := fa.2
          have e2 : b'.natAbs = a.den := by omega
          rw [e2]
          exact Nat.lt_of_lt_of_le fa.2 big
      exact ⟨_, _, look_turn T L k x sm, rfl, _, rfl⟩)
  subst g2
  rw [List.map_id] at g1
  -- the last look
  have hl : ∀ (en : En) (hi : 14 < en.length), lcLoop [] (lcG (Fn t (k + 5)) (.name 14)) (evT (Fn t (k + 5)) .nil) (evE (Fn t (k + 5)) I108e1) en [O, qD a] [] st3 = .ok (.d (.lst [.bl true, .bl true])) st3 := by
    intro en hi
    have := lc_enc (e := id) (f := fun _ => .bl true) (g := lcG (Fn t (k + 5)) (.name 14)) (t := evT (Fn t (k + 5)) .nil) (el := evE (Fn t (k + 5)) I108e1) (en := en) (st := st3) [O, qD a] [] fun x hx => ⟨en.set 14 (some (.d x)), by simp only [lc_g, g_name, id], rfl, by
      have sm : SmF x := by
        simp only [List.mem_cons, List.not_mem_nil, or_false] at hx
        rcases hx with rfl | rfl
        · exact o2.s.f
        · intro t' b' e
          simp only [qD, D.tup.injEq, List.cons.injEq, D.int.injEq, and_true] at e
          have e2 : b'.natAbs = a.den := by omega
          rw [e2]
          exact szB fa.2 (by decide)
      simp! only [I108e1, List.getElem?_set_self hi, is_fraction_ok T (k + 3) st3 x sm]⟩
    rw [List.map_id] at this
    exact this
  have kir : kIr (.d (.int 12)) st3 = .ok ⟨(List.range 12).map fun (i : Nat) => D.int i, []⟩ st3 := kirN 12 st3 (by decide)
  simp! only [runF, startE, I108, e1, e2, e3, e4, absI, addI, e5, e6, e7, e8, e9, q1, ← hlw, kir, f1, subI, catL, g1, wipeE, hl _ (show 14 < [some (Vv.ref n), some (.d (qD a)), some (.d (qD b)), some (.d (.int u)), some (.d (.int lw)), some (.d O), some (.d M), some (.d W), some (.d N), o9, o10, o11, o12, some (.d (.lst [O, M, W, qD a, qD b, .int u, .lst [qD a], .tup [qD a, qD b]])), none].length by simp), allD, bools, List.all_cons, List.all_nil, id, Bool.and_self]
  rw [dd.take]
end
end TW
namespace TW
open PySem PySem.Spec PyProof.Rows L2
local macro_rules
  | `(tactic| simp! only [] $[$loc]?) => `(tactic| simp only [List.map_cons, List.map_nil, List.length_cons, List.length_nil, List.replicate, List.cons_append, List.nil_append, List.append_nil, Nat.reduceAdd, Nat.reduceSub, Nat.zero_add, e_var, e_con, e_bin, k_bin1, k_bin2, e_neg, k_neg, e_not, k_not, e_and, k_and, e_or, k_or, e_cmp, k_cmp1, k_cmp2, e_chain, k_ch1, k_ch2, e_ite, k_ite, e_call, k_call1, k_call2, e_blt, k_blt, e_meth, k_meth1, k_meth2, e_tup, e_lst, e_dct0, e_dcd, e_idx, k_idx1, k_idx2, e_slc, k_slc1, k_slc2, k_slc3, o_none, o_some, k_o, e_new, k_new, e_lc, k_lc, lc_g, es_nil, es_cons, k_es1, k_es2, t_nil, t_cons, k_t, i_val, i_range, i_enum, k_ent, k_enl, enumD, s_par, k_par, setAll, k_body, k_turn, k_ivl, k_ivt, k_ivs, g_name, g_tup, g_sub, k_sub1, gs_nil, gs_cons, k_gs, s_asg, k_asg1, k_nx, s_expr, k_expr, s_ret, k_ret, s_iff, k_if, s_for, k_for, s_aug, s_pass, ss_nil, ss_cons, k_ss, bind_ok, bind_exc, bind_stuck, go_ok, go_exc, seq_nx, seq_rt, seq_exc, turn_nx, turn_rt, turn_exc, calm_ok', end_d, end_nx, end_exc, tru_bl, give, give_b, ders, der, arrD, List.getElem?_cons_zero, List.getElem?_cons_succ, List.set_cons_zero, List.set_cons_succ, if_true, if_false, Bool.false_eq_true, Bool.not_true, Bool.not_false, List.take_length, e_srtc, k_srtc, k_srt2, e_dnewT, e_dnewK, e_dget, k_dg1, e_dkeys, i_keys, e_setl, k_setl, e_isi, k_isi, e_rev, k_rev, e_tin, k_tinP, k_tinN, e_tget, k_tget, g_star, i_zip, is_int_non, is_int_bl, is_int_int, is_int_str, is_int_tup, is_int_lst, is_int_dct, is_str_non, is_str_bl, is_str_int, is_str_str, is_str_tup, is_str_lst, is_str_dct, is_bool_non, is_bool_bl, is_bool_int, is_bool_str, is_bool_tup, is_bool_lst, is_bool_dct, is_tuple_non, is_tuple_bl, is_tuple_int, is_tuple_str, is_tuple_tup, is_tuple_lst, is_tuple_dct, is_list_non, is_list_bl, is_list_int, is_list_str, is_list_tup, is_list_lst, is_list_dct, is_dict_non, is_dict_bl, is_dict_int, is_dict_str, is_dict_tup, is_dict_lst, is_dict_dct, bfD, len_s, len_l, len_t, c_eq_ii, c_ne_ii, c_lt_ii, c_le_ii, c_gt_ii, c_ge_ii, c_is_non, c_isn_non, noneD, Int.cast_ofNat_Int, Int.reduceEq, Int.reduceLT, Int.reduceLE, decide_true, decide_false, kTup, kLst, pures, sizeLine_eq, Nat.reduceLeDiff, g_tupq, idx_q0, idx_q1, is_tuple_q, len_q, k_ivq, e_xis, e_xfld, s_rais, k_rais1, k_rais2, s_try, cat_nx, cat_rt, cat_exc, out_rt, out_nx] $[$loc]?)
  | `(tactic| simp! only [$ls,*] $[$loc]?) => `(tactic| simp only [$ls,*, List.map_cons, List.map_nil, List.length_cons, List.length_nil, List.replicate, List.cons_append, List.nil_append, List.append_nil, Nat.reduceAdd, Nat.reduceSub, Nat.zero_add, e_var, e_con, e_bin, k_bin1, k_bin2, e_neg, k_neg, e_not, k_not, e_and, k_and, e_or, k_or, e_cmp, k_cmp1, k_cmp2, e_chain, k_ch1, k_ch2, e_ite, k_ite, e_call, k_call1, k_call2, e_blt, k_blt, e_meth, k_meth1, k_meth2, e_tup, e_lst, e_dct0, e_dcd, e_idx, k_idx1, k_idx2, e_slc, k_slc1, k_slc2, k_slc3, o_none, o_some, k_o, e_new, k_new, e_lc, k_lc, lc_g, es_nil, es_cons, k_es1, k_es2, t_nil, t_cons, k_t, i_val, i_range, i_enum, k_ent, k_enl, enumD, s_par, k_par, setAll, k_body, k_turn, k_ivl, k_ivt, k_ivs, g_name, g_tup, g_sub, k_sub1, gs_nil, gs_cons, k_gs, s_asg, k_asg1, k_nx, s_expr, k_expr, s_ret, k_ret, s_iff, k_if, s_for, k_for, s_aug, s_pass, ss_nil, ss_cons, k_ss, bind_ok, bind_exc, bind_stuck, go_ok, go_exc, seq_nx, seq_rt, seq_exc, turn_nx, turn_rt, turn_exc, calm_ok', end_d, end_nx, end_exc, tru_bl, give, give_b, ders, der, arrD, List.getElem?_cons_zero, List.getElem?_cons_succ, List.set_cons_zero, List.set_cons_succ, if_true, if_false, Bool.false_eq_true, Bool.not_true, Bool.not_false, List.take_length, e_srtc, k_srtc, k_srt2, e_dnewT, e_dnewK, e_dget, k_dg1, e_dkeys, i_keys, e_setl, k_setl, e_isi, k_isi, e_rev, k_rev, e_tin, k_tinP, k_tinN, e_tget, k_tget, g_star, i_zip, is_int_non, is_int_bl, is_int_int, is_int_str, is_int_tup, is_int_lst, is_int_dct, is_str_non, is_str_bl, is_str_int, is_str_str, is_str_tup, is_str_lst, is_str_dct, is_bool_non, is_bool_bl, is_bool_int, is_bool_str, is_bool_tup, is_bool_lst, is_bool_dct, is_tuple_non, is_tuple_bl, is_tuple_int, is_tuple_str, is_tuple_tup, is_tuple_lst, is_tuple_dct, is_list_non, is_list_bl, is_list_int, is_list_str, is_list_tup, is_list_lst, is_list_dct, is_dict_non, is_dict_bl, is_dict_int, is_dict_str, is_dict_tup, is_dict_lst, is_dict_dct, bfD, len_s, len_l, len_t, c_eq_ii, c_ne_ii, c_lt_ii, c_le_ii, c_gt_ii, c_ge_ii, c_is_non, c_isn_non, noneD, Int.cast_ofNat_Int, Int.reduceEq, Int.reduceLT, Int.reduceLE, decide_true, decide_false, kTup, kLst, pures, sizeLine_eq, Nat.reduceLeDiff, g_tupq, idx_q0, idx_q1, is_tuple_q, len_q, k_ivq, e_xis, e_xfld, s_rais, k_rais1, k_rais2, s_try, cat_nx, cat_rt, cat_exc, out_rt, out_nx] $[$loc]?)
section
variable {t : Tbl} (T : Sub TC t) (L : Sub TL02 t) (k : Nat)
include T L
theorem law02 (ns : List Int) : Fn t (k + 7) 109 [.d (.lst (ns.map D.int))] [] = .ok (.d (.bl true)) [] := by
  rw [fn_at L rfl]
  obtain ⟨mm, hmm⟩ : ∃ mm : Nat, (if (if (6 : Int) < ns.length then (6 : Int) else ns.length) > (2 : Int) then (if (6 : Int) < ns.length then (6 : Int) else ns.length) else 2) = (mm : Int) ∧ mm ≤ 6 := by
    refine ⟨(if (if (6 : Int) < ns.length then (6 : Int) else ns.length) > (2 : Int) then (if (6 : Int) < ns.length then (6 : Int) else ns.length) else 2).toNat, ?_, ?_⟩
    · split <;> (try split) <;> omega
    · split <;> (try split) <;> omega
  obtain ⟨en2, st2, f1, o1, o2, o3, rfl⟩ := for_invN (e := fun (i : Nat) => D.int i) (F := Fn t (k + 6)) (i := 1) (b := I109b1) (I := fun en _ => ∃ o1 o2 o3, en = [some (.d (.lst (ns.map D.int))), o1, o2, o3]) (List.range mm) [some (.d (.lst (ns.map D.int))), none, none, none] [] ⟨_, _, _, rfl⟩ (by
      rintro i hi en st ⟨o1, o2, o3, rfl⟩
      have hi2 : i < 2 ^ 60 := by
        rw [List.mem_range] at hi
        omega
      obtain ⟨v, c1⟩ := cell_ok T (k + 5) (ns := ns) (i := i) (st := st) hi2
      obtain ⟨p, c2, hp⟩ := pool_ok T (k + 5) (st := st) v
      obtain ⟨ys, s2, c3, ⟨d3, l3⟩, y3⟩ := lc_invN (F := Fn t (k + 6)) (i := 3) (el := I109e1) (en := [some (.d (.lst (ns.map D.int))), some (.d (.int i)), some (.ref st.length), none]) (I := fun acc s => Drawn st.length (st ++ [p]) s ∧ ∀ y ∈ acc, y = D.bl true) ((List.range 4).map fun (i : Nat) => D.int i) [] (st ++ [p]) ⟨(pool_at hp).refl, fun y hy => nomatch hy⟩ (by
        rintro x hx acc s ⟨d, l⟩
        obtain ⟨s3, c4, d4⟩ := doors_ok T L k (d.pool (pool_at hp))
        refine ⟨.bl true, s3, ?_, d.trans d4, fun y hy => ?_⟩
        · simp! only [I109e1, c4]
        · rcases List.mem_append.mp hy with hy | hy
          · exact l y hy
          · simpa using hy)
      obtain ⟨y0, y1, y2, y3', rfl⟩ : ∃ a b c d, ys = [a, b, c, d] := by
        match ys, y3 with
        | [a, b, c, d], _ => exact ⟨a, b, c, d, rfl⟩
      have z0 := l3 y0 (by simp)
      have z1 := l3 y1 (by simp)
      have z2 := l3 y2 (by simp)
      have z3 := l3 y3' (by simp)
      subst z0 z1 z2 z3
      have kir4 : ∀ s, kIr (.d (.int 4)) s = .ok ⟨(List.range 4).map fun (i : Nat) => D.int i, []⟩ s := fun s => kirN 4 s (by decide)
      refine ⟨[some (.d (.lst (ns.map D.int))), some (.d (.int i)), some (.ref st.length), o3], s2, ?_, _, _, _, rfl⟩
      simp! only [I109b1, c1, c2, kir4, wipeE, c3, allD, bools, List.all_cons, List.all_nil, id, Bool.and_self, List.length_map, List.length_range])
  have kir : kIr (.d (.int mm)) [] = .ok ⟨(List.range mm).map fun (i : Nat) => D.int i, []⟩ [] := kirN mm [] (by omega)
  have mn : minD [.int (ns.length : Int), .int 6] = some (.int (if (6 : Int) < ns.length then (6 : Int) else ns.length)) := by simp only [minD]
  have mx : maxD [.int 2, .int (if (6 : Int) < ns.length then (6 : Int) else ns.length)] = some (.int (mm : Int)) := by simp only [maxD]; rw [hmm.1]
  simp! only [runF, startE, I109, List.length_map, mn, mx, kir, f1]
  rfl
end
end TW
namespace TW
open PySem PySem.Spec PyProof.Rows L2
def topS (i : Nat) : Stmt := PySem.Challenge.pw_thankways_k02_numbers_refused.main.body.getD i (.Pass ⟨0, 0, 0, 0⟩)
/-- is_number -/
def di0 : DI := ⟨"is_number", 1, topS 22, ["thing"], ["thing"], [], false, [], false⟩
/-- divisor_of -/
def di1 : DI := ⟨"divisor_of", 2, topS 23, ["one", "other"], ["one", "other"], [], false, [], false⟩
/-- is_fraction -/
def di2 : DI := ⟨"is_fraction", 3, topS 24, ["thing"], ["thing", "part", "top", "bottom"], [], false, [], false⟩
/-- lowest -/
def di3 : DI := ⟨"lowest", 4, topS 25, ["top", "bottom"], ["top", "bottom", "shared"], [], false, [], false⟩
/-- fraction -/
def di4 : DI := ⟨"fraction", 5, topS 26, ["top", "bottom"], ["top", "bottom"], [], false, [], false⟩
/-- check_both -/
def di5 : DI := ⟨"check_both", 6, topS 27, ["one", "other"], ["one", "other", "place", "thing"], [], false, [], false⟩
/-- plus -/
def di6 : DI := ⟨"plus", 7, topS 28, ["one", "other"], ["one", "other", "top", "bottom", "more", "under"], [], false, [], false⟩
/-- minus -/
def di7 : DI := ⟨"minus", 8, topS 29, ["one", "other"], ["one", "other", "top", "bottom", "less", "under"], [], false, [], false⟩
/-- times -/
def di8 : DI := ⟨"times", 9, topS 30, ["one", "other"], ["one", "other"], [], false, [], false⟩
/-- over -/
def di9 : DI := ⟨"over", 10, topS 31, ["one", "other"], ["one", "other"], [], false, [], false⟩
/-- below -/
def di10 : DI := ⟨"below", 11, topS 32, ["one", "other"], ["one", "other"], [], false, [], false⟩
/-- _law_cell -/
def di11 : DI := ⟨"_law_cell", 12, topS 34, ["_law_script", "_law_k"], ["_law_script", "_law_k", "_law_state", "_law_cell_here"], [], false, [], false⟩
/-- _law_pool -/
def di12 : DI := ⟨"_law_pool", 13, topS 35, ["_law_cell_here"], ["_law_cell_here", "_law_digits"], [], true, [], false⟩
/-- _law_take -/
def di13 : DI := ⟨"_law_take", 14, topS 36, ["_law_pool_here", "_law_many"], ["_law_pool_here", "_law_many", "_law_state", "_law_digit"], [], false, [], false⟩
/-- _law_low -/
def di14 : DI := ⟨"_law_low", 15, topS 37, ["_law_upper", "_law_lower"], ["_law_upper", "_law_lower", "_law_a", "_law_b"], [], false, [], false⟩
/-- _law_sort -/
def di15 : DI := ⟨"_law_sort", 101, topS 38, ["_law_e"], ["_law_e", "_law_some", "_law_bases", "_law_python", "_law_at", "_law_words"], [], false, [], true⟩
/-- _law_number -/
def di16 : DI := ⟨"_law_number", 102, topS 39, ["_law_pool_here"], ["_law_pool_here", "_law_size", "_law_found"], [], false, [], false⟩
/-- _law_one -/
def di17 : DI := ⟨"_law_one", 103, topS 40, ["_law_pool_here"], ["_law_pool_here"], [], false, [], false⟩
/-- _law_odd_number -/
def di18 : DI := ⟨"_law_odd_number", 104, topS 41, ["_law_pool_here"], ["_law_pool_here", "_law_some"], [], false, [], false⟩
/-- _law_odd_fraction -/
def di19 : DI := ⟨"_law_odd_fraction", 105, topS 42, ["_law_pool_here"], ["_law_pool_here", "_law_some"], [], false, [], false⟩
/-- _law_asked -/
def di20 : DI := ⟨"_law_asked", 106, topS 43, ["_law_mode", "_law_first", "_law_second"], ["_law_mode", "_law_first", "_law_second", "_law_e"], [], false, [], false⟩
/-- _law_is_fraction -/
def di21 : DI := ⟨"_law_is_fraction", 107, topS 44, ["_law_matter"], ["_law_matter", "_law_part"], [], false, [], false⟩
/-- _law_doors_right -/
def di22 : DI := ⟨"_law_doors_right", 108, topS 45, ["_law_pool_here"], ["_law_pool_here", "_law_here", "_law_there", "_law_upper", "_law_lower", "_law_odd", "_law_more", "_law_wrong", "_law_none", "_law_mode", "_law_good", "_law_bad", "_law_ahead", "_law_some", "_law_matter"], [], false, [], false⟩
/-- law -/
def di23 : DI := ⟨"law", 109, topS 46, ["_law_script"], ["_law_script", "_law_k", "_law_pool_here", "_law_turn"], [], false, [], false⟩
def dis : List DI := [di0, di1, di2, di3, di4, di5, di6, di7, di8, di9, di10, di11, di12, di13, di14, di15, di16, di17, di18, di19, di20, di21, di22, di23]
def pg : Pg := ⟨[("ZERO", .tup [.int (0), .int (1)])], ["ArithmeticError", "LookupError", "ValueError", "abs", "all", "bool", "divmod", "enumerate", "int", "isinstance", "len", "max", "min", "range", "repr", "tuple"],
  [⟨"divisor_of", 2, [], 2, [.inl 0, .inl 1], false⟩,
  ⟨"is_number", 1, [], 1, [.inl 0], false⟩,
  ⟨"lowest", 2, [], 4, [.inl 0, .inl 1], false⟩,
  ⟨"is_fraction", 1, [], 3, [.inl 0], false⟩,
  ⟨"check_both", 2, [], 6, [.inl 0, .inl 1], false⟩,
  ⟨"_law_take", 2, [], 14, [.inl 0, .inl 1], false⟩,
  ⟨"_law_low", 2, [], 15, [.inl 0, .inl 1], false⟩,
  ⟨"_law_number", 1, [], 102, [.inl 0], false⟩,
  ⟨"below", 2, [], 11, [.inl 0, .inl 1], false⟩,
  ⟨"below", 0, ["other", "one"], 11, [.inl 1, .inl 0], false⟩,
  ⟨"_law_sort", 1, [], 101, [.inl 0], true⟩,
  ⟨"fraction", 2, [], 5, [.inl 0, .inl 1], false⟩,
  ⟨"fraction", 0, ["bottom", "top"], 5, [.inl 1, .inl 0], false⟩,
  ⟨"plus", 2, [], 7, [.inl 0, .inl 1], false⟩,
  ⟨"plus", 0, ["other", "one"], 7, [.inl 1, .inl 0], false⟩,
  ⟨"minus", 2, [], 8, [.inl 0, .inl 1], false⟩,
  ⟨"minus", 0, ["other", "one"], 8, [.inl 1, .inl 0], false⟩,
  ⟨"times", 2, [], 9, [.inl 0, .inl 1], false⟩,
  ⟨"times", 0, ["other", "one"], 9, [.inl 1, .inl 0], false⟩,
  ⟨"over", 2, [], 10, [.inl 0, .inl 1], false⟩,
  ⟨"over", 0, ["other", "one"], 10, [.inl 1, .inl 0], false⟩,
  ⟨"_law_one", 1, [], 103, [.inl 0], false⟩,
  ⟨"_law_odd_fraction", 1, [], 105, [.inl 0], false⟩,
  ⟨"_law_odd_number", 1, [], 104, [.inl 0], false⟩,
  ⟨"_law_asked", 3, [], 106, [.inl 0, .inl 1, .inl 2], false⟩,
  ⟨"is_fraction", 0, ["thing"], 3, [.inl 0], false⟩,
  ⟨"_law_is_fraction", 1, [], 107, [.inl 0], false⟩,
  ⟨"_law_pool", 1, [], 13, [.inl 0], false⟩,
  ⟨"_law_cell", 2, [], 12, [.inl 0, .inl 1], false⟩,
  ⟨"_law_doors_right", 1, [], 108, [.inl 0], false⟩],
  [],
  [("NoNumber", ["place"]), ("NoDeed", ["deed"]), ("NoBook", ["number"]), ("NoWeb", ["thing"]), ("NoNames", ["names"]), ("NoAmount", ["amount"]), ("NoMany", ["many"]), ("NoText", ["row"]), ("NoRow", ["row"]), ("NoName", ["name"]), ("NoLot", ["name"]), ("NoPlace", ["number"]), ("Fails", ["number", "word"]), ("TooMany", ["many"])],
  [("NoNumber", [("NoNumber", true), ("NoDeed", false), ("NoBook", false), ("NoWeb", false), ("NoNames", false), ("NoAmount", false), ("NoMany", false), ("NoText", false), ("NoRow", false), ("NoName", false), ("NoLot", false), ("NoPlace", false), ("NoBack", false), ("Fails", false), ("NoMates", false), ("TooMany", false)]),
   ("NoDeed", [("NoNumber", false), ("NoDeed", true), ("NoBook", false), ("NoWeb", false), ("NoNames", false), ("NoAmount", false), ("NoMany", false), ("NoText", false), ("NoRow", false), ("NoName", false), ("NoLot", false), ("NoPlace", false), ("NoBack", false), ("Fails", false), ("NoMates", false), ("TooMany", false)]),
   ("NoBook", [("NoNumber", false), ("NoDeed", false), ("NoBook", true), ("NoWeb", false), ("NoNames", false), ("NoAmount", false), ("NoMany", false), ("NoText", false), ("NoRow", false), ("NoName", false), ("NoLot", false), ("NoPlace", false), ("NoBack", false), ("Fails", false), ("NoMates", false), ("TooMany", false)]),
   ("ThankError", [("NoNumber", true), ("NoDeed", true), ("NoBook", true), ("NoWeb", true), ("NoNames", true), ("NoAmount", true), ("NoMany", true), ("NoText", true), ("NoRow", true), ("NoName", false), ("NoLot", false), ("NoPlace", false), ("NoBack", false), ("Fails", false), ("NoMates", false), ("TooMany", false)]),
   ("LostError", [("NoNumber", false), ("NoDeed", false), ("NoBook", false), ("NoWeb", false), ("NoNames", false), ("NoAmount", false), ("NoMany", false), ("NoText", false), ("NoRow", false), ("NoName", true), ("NoLot", true), ("NoPlace", true), ("NoBack", true), ("Fails", false), ("NoMates", false), ("TooMany", false)]),
   ("StandError", [("NoNumber", false), ("NoDeed", false), ("NoBook", false), ("NoWeb", false), ("NoNames", false), ("NoAmount", false), ("NoMany", false), ("NoText", false), ("NoRow", false), ("NoName", false), ("NoLot", false), ("NoPlace", false), ("NoBack", false), ("Fails", true), ("NoMates", true), ("TooMany", true)]),
   ("ValueError", [("NoNumber", true), ("NoDeed", true), ("NoBook", true), ("NoWeb", true), ("NoNames", true), ("NoAmount", true), ("NoMany", true), ("NoText", true), ("NoRow", true), ("NoName", false), ("NoLot", false), ("NoPlace", false), ("NoBack", false), ("Fails", false), ("NoMates", false), ("TooMany", false)]),
   ("LookupError", [("NoNumber", false), ("NoDeed", false), ("NoBook", false), ("NoWeb", false), ("NoNames", false), ("NoAmount", false), ("NoMany", false), ("NoText", false), ("NoRow", false), ("NoName", true), ("NoLot", true), ("NoPlace", true), ("NoBack", true), ("Fails", false), ("NoMates", false), ("TooMany", false)]),
   ("ArithmeticError", [("NoNumber", false), ("NoDeed", false), ("NoBook", false), ("NoWeb", false), ("NoNames", false), ("NoAmount", false), ("NoMany", false), ("NoText", false), ("NoRow", false), ("NoName", false), ("NoLot", false), ("NoPlace", false), ("NoBack", false), ("Fails", true), ("NoMates", true), ("TooMany", true)]),
   ("NoWeb", [("NoNumber", false), ("NoDeed", false), ("NoBook", false), ("NoWeb", true), ("NoNames", false), ("NoAmount", false), ("NoMany", false), ("NoText", false), ("NoRow", false), ("NoName", false), ("NoLot", false), ("NoPlace", false), ("NoBack", false), ("Fails", false), ("NoMates", false), ("TooMany", false)]),
   ("NoNames", [("NoNumber", false), ("NoDeed", false), ("NoBook", false), ("NoWeb", false), ("NoNames", true), ("NoAmount", false), ("NoMany", false), ("NoText", false), ("NoRow", false), ("NoName", false), ("NoLot", false), ("NoPlace", false), ("NoBack", false), ("Fails", false), ("NoMates", false), ("TooMany", false)]),
   ("NoAmount", [("NoNumber", false), ("NoDeed", false), ("NoBook", false), ("NoWeb", false), ("NoNames", false), ("NoAmount", true), ("NoMany", false), ("NoText", false), ("NoRow", false), ("NoName", false), ("NoLot", false), ("NoPlace", false), ("NoBack", false), ("Fails", false), ("NoMates", false), ("TooMany", false)]),
   ("NoMany", [("NoNumber", false), ("NoDeed", false), ("NoBook", false), ("NoWeb", false), ("NoNames", false), ("NoAmount", false), ("NoMany", true), ("NoText", false), ("NoRow", false), ("NoName", false), ("NoLot", false), ("NoPlace", false), ("NoBack", false), ("Fails", false), ("NoMates", false), ("TooMany", false)]),
   ("NoText", [("NoNumber", false), ("NoDeed", false), ("NoBook", false), ("NoWeb", false), ("NoNames", false), ("NoAmount", false), ("NoMany", false), ("NoText", true), ("NoRow", false), ("NoName", false), ("NoLot", false), ("NoPlace", false), ("NoBack", false), ("Fails", false), ("NoMates", false), ("TooMany", false)]),
   ("NoRow", [("NoNumber", false), ("NoDeed", false), ("NoBook", false), ("NoWeb", false), ("NoNames", false), ("NoAmount", false), ("NoMany", false), ("NoText", false), ("NoRow", true), ("NoName", false), ("NoLot", false), ("NoPlace", false), ("NoBack", false), ("Fails", false), ("NoMates", false), ("TooMany", false)]),
   ("NoName", [("NoNumber", false), ("NoDeed", false), ("NoBook", false), ("NoWeb", false), ("NoNames", false), ("NoAmount", false), ("NoMany", false), ("NoText", false), ("NoRow", false), ("NoName", true), ("NoLot", false), ("NoPlace", false), ("NoBack", false), ("Fails", false), ("NoMates", false), ("TooMany", false)]),
   ("NoLot", [("NoNumber", false), ("NoDeed", false), ("NoBook", false), ("NoWeb", false), ("NoNames", false), ("NoAmount", false), ("NoMany", false), ("NoText", false), ("NoRow", false), ("NoName", false), ("NoLot", true), ("NoPlace", false), ("NoBack", false), ("Fails", false), ("NoMates", false), ("TooMany", false)]),
   ("NoPlace", [("NoNumber", false), ("NoDeed", false), ("NoBook", false), ("NoWeb", false), ("NoNames", false), ("NoAmount", false), ("NoMany", false), ("NoText", false), ("NoRow", false), ("NoName", false), ("NoLot", false), ("NoPlace", true), ("NoBack", false), ("Fails", false), ("NoMates", false), ("TooMany", false)]),
   ("NoBack", [("NoNumber", false), ("NoDeed", false), ("NoBook", false), ("NoWeb", false), ("NoNames", false), ("NoAmount", false), ("NoMany", false), ("NoText", false), ("NoRow", false), ("NoName", false), ("NoLot", false), ("NoPlace", false), ("NoBack", true), ("Fails", false), ("NoMates", false), ("TooMany", false)]),
   ("Fails", [("NoNumber", false), ("NoDeed", false), ("NoBook", false), ("NoWeb", false), ("NoNames", false), ("NoAmount", false), ("NoMany", false), ("NoText", false), ("NoRow", false), ("NoName", false), ("NoLot", false), ("NoPlace", false), ("NoBack", false), ("Fails", true), ("NoMates", false), ("TooMany", false)]),
   ("NoMates", [("NoNumber", false), ("NoDeed", false), ("NoBook", false), ("NoWeb", false), ("NoNames", false), ("NoAmount", false), ("NoMany", false), ("NoText", false), ("NoRow", false), ("NoName", false), ("NoLot", false), ("NoPlace", false), ("NoBack", false), ("Fails", false), ("NoMates", true), ("TooMany", false)]),
   ("TooMany", [("NoNumber", false), ("NoDeed", false), ("NoBook", false), ("NoWeb", false), ("NoNames", false), ("NoAmount", false), ("NoMany", false), ("NoText", false), ("NoRow", false), ("NoName", false), ("NoLot", false), ("NoPlace", false), ("NoBack", false), ("Fails", false), ("NoMates", false), ("TooMany", true)])]⟩
def tbl : Tbl := fun i => (match TC i with | some r => some r | none => (match TL02 i with | some r => some r | none => none))
theorem sub_TC : Sub TC tbl := fun i r h => by simp only [tbl, h]
theorem sub_TL02 : Sub TL02 tbl := by
  intro i r h
  unfold TL02 at h
  split at h <;> first | (cases h; rfl) | cases h
theorem dcl0 : DC pg tbl di0 := ⟨⟨rfl, rfl, rfl, by decide +kernel, rfl, by decide +kernel, by decide +kernel⟩, ⟨I1, rfl, by kernel_rfl⟩⟩
theorem dcl1 : DC pg tbl di1 := ⟨⟨rfl, rfl, rfl, by decide +kernel, rfl, by decide +kernel, by decide +kernel⟩, ⟨I2, rfl, by kernel_rfl⟩⟩
theorem dcl2 : DC pg tbl di2 := ⟨⟨rfl, rfl, rfl, by decide +kernel, rfl, by decide +kernel, by decide +kernel⟩, ⟨I3, rfl, by kernel_rfl⟩⟩
theorem dcl3 : DC pg tbl di3 := ⟨⟨rfl, rfl, rfl, by decide +kernel, rfl, by decide +kernel, by decide +kernel⟩, ⟨I4, rfl, by kernel_rfl⟩⟩
theorem dcl4 : DC pg tbl di4 := ⟨⟨rfl, rfl, rfl, by decide +kernel, rfl, by decide +kernel, by decide +kernel⟩, ⟨I5, rfl, by kernel_rfl⟩⟩
theorem dcl5 : DC pg tbl di5 := ⟨⟨rfl, rfl, rfl, by decide +kernel, rfl, by decide +kernel, by decide +kernel⟩, ⟨I6, rfl, by kernel_rfl⟩⟩
theorem dcl6 : DC pg tbl di6 := ⟨⟨rfl, rfl, rfl, by decide +kernel, rfl, by decide +kernel, by decide +kernel⟩, ⟨I7, rfl, by kernel_rfl⟩⟩
theorem dcl7 : DC pg tbl di7 := ⟨⟨rfl, rfl, rfl, by decide +kernel, rfl, by decide +kernel, by decide +kernel⟩, ⟨I8, rfl, by kernel_rfl⟩⟩
theorem dcl8 : DC pg tbl di8 := ⟨⟨rfl, rfl, rfl, by decide +kernel, rfl, by decide +kernel, by decide +kernel⟩, ⟨I9, rfl, by kernel_rfl⟩⟩
theorem dcl9 : DC pg tbl di9 := ⟨⟨rfl, rfl, rfl, by decide +kernel, rfl, by decide +kernel, by decide +kernel⟩, ⟨I10, rfl, by kernel_rfl⟩⟩
theorem dcl10 : DC pg tbl di10 := ⟨⟨rfl, rfl, rfl, by decide +kernel, rfl, by decide +kernel, by decide +kernel⟩, ⟨I11, rfl, by kernel_rfl⟩⟩
theorem dcl11 : DC pg tbl di11 := ⟨⟨rfl, rfl, rfl, by decide +kernel, rfl, by decide +kernel, by decide +kernel⟩, ⟨I12, rfl, by kernel_rfl⟩⟩
theorem dcl12 : DC pg tbl di12 := ⟨⟨rfl, rfl, rfl, by decide +kernel, rfl, by decide +kernel, by decide +kernel⟩, ⟨I13, rfl, by kernel_rfl⟩⟩
theorem dcl13 : DC pg tbl di13 := ⟨⟨rfl, rfl, rfl, by decide +kernel, rfl, by decide +kernel, by decide +kernel⟩, ⟨I14, rfl, by kernel_rfl⟩⟩
theorem dcl14 : DC pg tbl di14 := ⟨⟨rfl, rfl, rfl, by decide +kernel, rfl, by decide +kernel, by decide +kernel⟩, ⟨I15, rfl, by kernel_rfl⟩⟩
theorem dcl15 : DC pg tbl di15 := ⟨⟨rfl, rfl, rfl, by decide +kernel, rfl, by decide +kernel, by decide +kernel⟩, ⟨I101, rfl, by kernel_rfl⟩⟩
theorem dcl16 : DC pg tbl di16 := ⟨⟨rfl, rfl, rfl, by decide +kernel, rfl, by decide +kernel, by decide +kernel⟩, ⟨I102, rfl, by kernel_rfl⟩⟩
theorem dcl17 : DC pg tbl di17 := ⟨⟨rfl, rfl, rfl, by decide +kernel, rfl, by decide +kernel, by decide +kernel⟩, ⟨I103, rfl, by kernel_rfl⟩⟩
theorem dcl18 : DC pg tbl di18 := ⟨⟨rfl, rfl, rfl, by decide +kernel, rfl, by decide +kernel, by decide +kernel⟩, ⟨I104, rfl, by kernel_rfl⟩⟩
theorem dcl19 : DC pg tbl di19 := ⟨⟨rfl, rfl, rfl, by decide +kernel, rfl, by decide +kernel, by decide +kernel⟩, ⟨I105, rfl, by kernel_rfl⟩⟩
theorem dcl20 : DC pg tbl di20 := ⟨⟨rfl, rfl, rfl, by decide +kernel, rfl, by decide +kernel, by decide +kernel⟩, ⟨I106, rfl, by kernel_rfl⟩⟩
theorem dcl21 : DC pg tbl di21 := ⟨⟨rfl, rfl, rfl, by decide +kernel, rfl, by decide +kernel, by decide +kernel⟩, ⟨I107, rfl, by kernel_rfl⟩⟩
theorem dcl22 : DC pg tbl di22 := ⟨⟨rfl, rfl, rfl, by decide +kernel, rfl, by decide +kernel, by decide +kernel⟩, ⟨I108, rfl, by kernel_rfl⟩⟩
theorem dcl23 : DC pg tbl di23 := ⟨⟨rfl, rfl, rfl, by decide +kernel, rfl, by decide +kernel, by decide +kernel⟩, ⟨I109, rfl, by kernel_rfl⟩⟩
theorem cs_NoNumber : FnScope ["self", "place"] ["self", "place"] (defScope (clsS (topS 4) 0)) := ⟨rfl, rfl, rfl, by decide +kernel, rfl, by decide +kernel, by decide +kernel⟩
theorem cg_NoNumber : (defScope (clsS (topS 4) 0)).names.lookup ("ThankError" : Str) = some .globalImplicit := by kernel_rfl
theorem cb_NoNumber : initB (defBody (clsS (topS 4) 0)) = some (("ThankError" : Str), (["place"] : List Str)) := by kernel_rfl
theorem cs_NoDeed : FnScope ["self", "deed"] ["self", "deed"] (defScope (clsS (topS 5) 0)) := ⟨rfl, rfl, rfl, by decide +kernel, rfl, by decide +kernel, by decide +kernel⟩
theorem cg_NoDeed : (defScope (clsS (topS 5) 0)).names.lookup ("ThankError" : Str) = some .globalImplicit := by kernel_rfl
theorem cb_NoDeed : initB (defBody (clsS (topS 5) 0)) = some (("ThankError" : Str), (["deed"] : List Str)) := by kernel_rfl
theorem cs_NoBook : FnScope ["self", "number"] ["self", "number"] (defScope (clsS (topS 6) 0)) := ⟨rfl, rfl, rfl, by decide +kernel, rfl, by decide +kernel, by decide +kernel⟩
theorem cg_NoBook : (defScope (clsS (topS 6) 0)).names.lookup ("ThankError" : Str) = some .globalImplicit := by kernel_rfl
theorem cb_NoBook : initB (defBody (clsS (topS 6) 0)) = some (("ThankError" : Str), (["number"] : List Str)) := by kernel_rfl
theorem cs_NoWeb : FnScope ["self", "thing"] ["self", "thing"] (defScope (clsS (topS 7) 0)) := ⟨rfl, rfl, rfl, by decide +kernel, rfl, by decide +kernel, by decide +kernel⟩
theorem cg_NoWeb : (defScope (clsS (topS 7) 0)).names.lookup ("ThankError" : Str) = some .globalImplicit := by kernel_rfl
theorem cb_NoWeb : initB (defBody (clsS (topS 7) 0)) = some (("ThankError" : Str), (["thing"] : List Str)) := by kernel_rfl
theorem cs_NoNames : FnScope ["self", "names"] ["self", "names"] (defScope (clsS (topS 8) 0)) := ⟨rfl, rfl, rfl, by decide +kernel, rfl, by decide +kernel, by decide +kernel⟩
theorem cg_NoNames : (defScope (clsS (topS 8) 0)).names.lookup ("ThankError" : Str) = some .globalImplicit := by kernel_rfl
theorem cb_NoNames : initB (defBody (clsS (topS 8) 0)) = some (("ThankError" : Str), (["names"] : List Str)) := by kernel_rfl
theorem cs_NoAmount : FnScope ["self", "amount"] ["self", "amount"] (defScope (clsS (topS 9) 0)) := ⟨rfl, rfl, rfl, by decide +kernel, rfl, by decide +kernel, by decide +kernel⟩
theorem cg_NoAmount : (defScope (clsS (topS 9) 0)).names.lookup ("ThankError" : Str) = some .globalImplicit := by kernel_rfl
theorem cb_NoAmount : initB (defBody (clsS (topS 9) 0)) = some (("ThankError" : Str), (["amount"] : List Str)) := by kernel_rfl
theorem cs_NoMany : FnScope ["self", "many"] ["self", "many"] (defScope (clsS (topS 10) 0)) := ⟨rfl, rfl, rfl, by decide +kernel, rfl, by decide +kernel, by decide +kernel⟩
theorem cg_NoMany : (defScope (clsS (topS 10) 0)).names.lookup ("ThankError" : Str) = some .globalImplicit := by kernel_rfl
theorem cb_NoMany : initB (defBody (clsS (topS 10) 0)) = some (("ThankError" : Str), (["many"] : List Str)) := by kernel_rfl
theorem cs_NoText : FnScope ["self", "row"] ["self", "row"] (defScope (clsS (topS 11) 0)) := ⟨rfl, rfl, rfl, by decide +kernel, rfl, by decide +kernel, by decide +kernel⟩
theorem cg_NoText : (defScope (clsS (topS 11) 0)).names.lookup ("ThankError" : Str) = some .globalImplicit := by kernel_rfl
theorem cb_NoText : initB (defBody (clsS (topS 11) 0)) = some (("ThankError" : Str), (["row"] : List Str)) := by kernel_rfl
theorem cs_NoRow : FnScope ["self", "row"] ["self", "row"] (defScope (clsS (topS 12) 0)) := ⟨rfl, rfl, rfl, by decide +kernel, rfl, by decide +kernel, by decide +kernel⟩
theorem cg_NoRow : (defScope (clsS (topS 12) 0)).names.lookup ("ThankError" : Str) = some .globalImplicit := by kernel_rfl
theorem cb_NoRow : initB (defBody (clsS (topS 12) 0)) = some (("ThankError" : Str), (["row"] : List Str)) := by kernel_rfl
theorem cs_NoName : FnScope ["self", "name"] ["self", "name"] (defScope (clsS (topS 13) 0)) := ⟨rfl, rfl, rfl, by decide +kernel, rfl, by decide +kernel, by decide +kernel⟩
theorem cg_NoName : (defScope (clsS (topS 13) 0)).names.lookup ("LostError" : Str) = some .globalImplicit := by kernel_rfl
theorem cb_NoName : initB (defBody (clsS (topS 13) 0)) = some (("LostError" : Str), (["name"] : List Str)) := by kernel_rfl
theorem cs_NoLot : FnScope ["self", "name"] ["self", "name"] (defScope (clsS (topS 14) 0)) := ⟨rfl, rfl, rfl, by decide +kernel, rfl, by decide +kernel, by decide +kernel⟩
theorem cg_NoLot : (defScope (clsS (topS 14) 0)).names.lookup ("LostError" : Str) = some .globalImplicit := by kernel_rfl
theorem cb_NoLot : initB (defBody (clsS (topS 14) 0)) = some (("LostError" : Str), (["name"] : List Str)) := by kernel_rfl
theorem cs_NoPlace : FnScope ["self", "number"] ["self", "number"] (defScope (clsS (topS 15) 0)) := ⟨rfl, rfl, rfl, by decide +kernel, rfl, by decide +kernel, by decide +kernel⟩
theorem cg_NoPlace : (defScope (clsS (topS 15) 0)).names.lookup ("LostError" : Str) = some .globalImplicit := by kernel_rfl
theorem cb_NoPlace : initB (defBody (clsS (topS 15) 0)) = some (("LostError" : Str), (["number"] : List Str)) := by kernel_rfl
theorem cs_Fails : FnScope ["self", "number", "word"] ["self", "number", "word"] (defScope (clsS (topS 17) 0)) := ⟨rfl, rfl, rfl, by decide +kernel, rfl, by decide +kernel, by decide +kernel⟩
theorem cg_Fails : (defScope (clsS (topS 17) 0)).names.lookup ("StandError" : Str) = some .globalImplicit := by kernel_rfl
theorem cb_Fails : initB (defBody (clsS (topS 17) 0)) = some (("StandError" : Str), (["number", "word"] : List Str)) := by kernel_rfl
theorem cs_TooMany : FnScope ["self", "many"] ["self", "many"] (defScope (clsS (topS 19) 0)) := ⟨rfl, rfl, rfl, by decide +kernel, rfl, by decide +kernel, by decide +kernel⟩
theorem cg_TooMany : (defScope (clsS (topS 19) 0)).names.lookup ("StandError" : Str) = some .globalImplicit := by kernel_rfl
theorem cb_TooMany : initB (defBody (clsS (topS 19) 0)) = some (("StandError" : Str), (["many"] : List Str)) := by kernel_rfl
theorem law_true : ∀ ns : List Int, ns.length ≤ 63 → Fn tbl 7 109 [.d (.lst (ns.map D.int))] [] = .ok (.d (.bl true)) [] := fun ns h => law02 sub_TC sub_TL02 0 ns
set_option maxHeartbeats 0 in
theorem all_mk {P : Program} {w : World} {K : PySem.W.Frag} {h : Heap} {mg : Str → Option Value} {fa : Addr} (X : K.In h) (G : h.Ns mainGlobals mg) (hfa : mg "law" = some (.ref fa))
    {f0 : Addr} {od0 an0 : Option Addr} {sl0 : Array (Option Value)} {oc0 kV0 dc0 pm0 cd0 ct0 : Value}
    {f1 : Addr} {od1 an1 : Option Addr} {sl1 : Array (Option Value)} {oc1 kV1 dc1 pm1 cd1 ct1 : Value}
    {f2 : Addr} {od2 an2 : Option Addr} {sl2 : Array (Option Value)} {oc2 kV2 dc2 pm2 cd2 ct2 : Value}
    {f3 : Addr} {od3 an3 : Option Addr} {sl3 : Array (Option Value)} {oc3 kV3 dc3 pm3 cd3 ct3 : Value}
    {dT4 : Addr} {dod4 : Option Addr} {doc4 : Value} {dsl4 : Array (Option Value)} {dn4 : Nat}
    {tkd4_1 : Tok}
    {f4 : Addr} {od4 an4 : Option Addr} {sl4 : Array (Option Value)} {oc4 kV4 dc4 pm4 cd4 ct4 : Value}
    {f5 : Addr} {od5 an5 : Option Addr} {sl5 : Array (Option Value)} {oc5 kV5 dc5 pm5 cd5 ct5 : Value}
    {f6 : Addr} {od6 an6 : Option Addr} {sl6 : Array (Option Value)} {oc6 kV6 dc6 pm6 cd6 ct6 : Value}
    {f7 : Addr} {od7 an7 : Option Addr} {sl7 : Array (Option Value)} {oc7 kV7 dc7 pm7 cd7 ct7 : Value}
    {f8 : Addr} {od8 an8 : Option Addr} {sl8 : Array (Option Value)} {oc8 kV8 dc8 pm8 cd8 ct8 : Value}
    {f9 : Addr} {od9 an9 : Option Addr} {sl9 : Array (Option Value)} {oc9 kV9 dc9 pm9 cd9 ct9 : Value}
    {f10 : Addr} {od10 an10 : Option Addr} {sl10 : Array (Option Value)} {oc10 kV10 dc10 pm10 cd10 ct10 : Value}
    {f11 : Addr} {od11 an11 : Option Addr} {sl11 : Array (Option Value)} {oc11 kV11 dc11 pm11 cd11 ct11 : Value}
    {f12 : Addr} {od12 an12 : Option Addr} {sl12 : Array (Option Value)} {oc12 kV12 dc12 pm12 cd12 ct12 : Value}
    {f13 : Addr} {od13 an13 : Option Addr} {sl13 : Array (Option Value)} {oc13 kV13 dc13 pm13 cd13 ct13 : Value}
    {f14 : Addr} {od14 an14 : Option Addr} {sl14 : Array (Option Value)} {oc14 kV14 dc14 pm14 cd14 ct14 : Value}
    {f15 : Addr} {od15 an15 : Option Addr} {sl15 : Array (Option Value)} {oc15 kV15 dc15 pm15 cd15 ct15 : Value}
    {f16 : Addr} {od16 an16 : Option Addr} {sl16 : Array (Option Value)} {oc16 kV16 dc16 pm16 cd16 ct16 : Value}
    {f17 : Addr} {od17 an17 : Option Addr} {sl17 : Array (Option Value)} {oc17 kV17 dc17 pm17 cd17 ct17 : Value}
    {f18 : Addr} {od18 an18 : Option Addr} {sl18 : Array (Option Value)} {oc18 kV18 dc18 pm18 cd18 ct18 : Value}
    {f19 : Addr} {od19 an19 : Option Addr} {sl19 : Array (Option Value)} {oc19 kV19 dc19 pm19 cd19 ct19 : Value}
    {f20 : Addr} {od20 an20 : Option Addr} {sl20 : Array (Option Value)} {oc20 kV20 dc20 pm20 cd20 ct20 : Value}
    {f21 : Addr} {od21 an21 : Option Addr} {sl21 : Array (Option Value)} {oc21 kV21 dc21 pm21 cd21 ct21 : Value}
    {f22 : Addr} {od22 an22 : Option Addr} {sl22 : Array (Option Value)} {oc22 kV22 dc22 pm22 cd22 ct22 : Value}
    {f23 : Addr} {od23 an23 : Option Addr} {sl23 : Array (Option Value)} {oc23 kV23 dc23 pm23 cd23 ct23 : Value}
    {gag0_1 : Addr}
    {tkg0_2 : Tok}
    {tkg0_3 : Tok}
    {godg0_4 : Option Addr} {gslg0_5 : Array (Option Value)} {gng0_6 : Nat}
    {C_ThankError : Addr}
    {C_LostError : Addr}
    {C_StandError : Addr}
    {C_NoNumber : Addr}
    {C_NoDeed : Addr}
    {C_NoBook : Addr}
    {C_NoWeb : Addr}
    {C_NoNames : Addr}
    {C_NoAmount : Addr}
    {C_NoMany : Addr}
    {C_NoText : Addr}
    {C_NoRow : Addr}
    {C_NoName : Addr}
    {C_NoLot : Addr}
    {C_NoPlace : Addr}
    {C_NoBack : Addr}
    {C_Fails : Addr}
    {C_NoMates : Addr}
    {C_TooMany : Addr}
    {cn_NoNumber cq_NoNumber : Str} {cN_NoNumber fI_NoNumber : Addr} {cbs_NoNumber : List Value} {csn_NoNumber : List Str} {csub_NoNumber : List Value} {cab_NoNumber : Bool} {ccol_NoNumber : Option Bool} {cdd_NoNumber : Option Addr} {ck0_NoNumber ck1_NoNumber ck2_NoNumber ck3_NoNumber ck5_NoNumber : Option Value} {xod_NoNumber xan_NoNumber : Option Addr} {xsl_NoNumber : Array (Option Value)} {xoc_NoNumber xk_NoNumber xdc_NoNumber xpm_NoNumber xcd_NoNumber xct_NoNumber : Value}
    {cn_NoDeed cq_NoDeed : Str} {cN_NoDeed fI_NoDeed : Addr} {cbs_NoDeed : List Value} {csn_NoDeed : List Str} {csub_NoDeed : List Value} {cab_NoDeed : Bool} {ccol_NoDeed : Option Bool} {cdd_NoDeed : Option Addr} {ck0_NoDeed ck1_NoDeed ck2_NoDeed ck3_NoDeed ck5_NoDeed : Option Value} {xod_NoDeed xan_NoDeed : Option Addr} {xsl_NoDeed : Array (Option Value)} {xoc_NoDeed xk_NoDeed xdc_NoDeed xpm_NoDeed xcd_NoDeed xct_NoDeed : Value}
    {cn_NoBook cq_NoBook : Str} {cN_NoBook fI_NoBook : Addr} {cbs_NoBook : List Value} {csn_NoBook : List Str} {csub_NoBook : List Value} {cab_NoBook : Bool} {ccol_NoBook : Option Bool} {cdd_NoBook : Option Addr} {ck0_NoBook ck1_NoBook ck2_NoBook ck3_NoBook ck5_NoBook : Option Value} {xod_NoBook xan_NoBook : Option Addr} {xsl_NoBook : Array (Option Value)} {xoc_NoBook xk_NoBook xdc_NoBook xpm_NoBook xcd_NoBook xct_NoBook : Value}
    {cn_NoWeb cq_NoWeb : Str} {cN_NoWeb fI_NoWeb : Addr} {cbs_NoWeb : List Value} {csn_NoWeb : List Str} {csub_NoWeb : List Value} {cab_NoWeb : Bool} {ccol_NoWeb : Option Bool} {cdd_NoWeb : Option Addr} {ck0_NoWeb ck1_NoWeb ck2_NoWeb ck3_NoWeb ck5_NoWeb : Option Value} {xod_NoWeb xan_NoWeb : Option Addr} {xsl_NoWeb : Array (Option Value)} {xoc_NoWeb xk_NoWeb xdc_NoWeb xpm_NoWeb xcd_NoWeb xct_NoWeb : Value}
    {cn_NoNames cq_NoNames : Str} {cN_NoNames fI_NoNames : Addr} {cbs_NoNames : List Value} {csn_NoNames : List Str} {csub_NoNames : List Value} {cab_NoNames : Bool} {ccol_NoNames : Option Bool} {cdd_NoNames : Option Addr} {ck0_NoNames ck1_NoNames ck2_NoNames ck3_NoNames ck5_NoNames : Option Value} {xod_NoNames xan_NoNames : Option Addr} {xsl_NoNames : Array (Option Value)} {xoc_NoNames xk_NoNames xdc_NoNames xpm_NoNames xcd_NoNames xct_NoNames : Value}
    {cn_NoAmount cq_NoAmount : Str} {cN_NoAmount fI_NoAmount : Addr} {cbs_NoAmount : List Value} {csn_NoAmount : List Str} {csub_NoAmount : List Value} {cab_NoAmount : Bool} {ccol_NoAmount : Option Bool} {cdd_NoAmount : Option Addr} {ck0_NoAmount ck1_NoAmount ck2_NoAmount ck3_NoAmount ck5_NoAmount : Option Value} {xod_NoAmount xan_NoAmount : Option Addr} {xsl_NoAmount : Array (Option Value)} {xoc_NoAmount xk_NoAmount xdc_NoAmount xpm_NoAmount xcd_NoAmount xct_NoAmount : Value}
    {cn_NoMany cq_NoMany : Str} {cN_NoMany fI_NoMany : Addr} {cbs_NoMany : List Value} {csn_NoMany : List Str} {csub_NoMany : List Value} {cab_NoMany : Bool} {ccol_NoMany : Option Bool} {cdd_NoMany : Option Addr} {ck0_NoMany ck1_NoMany ck2_NoMany ck3_NoMany ck5_NoMany : Option Value} {xod_NoMany xan_NoMany : Option Addr} {xsl_NoMany : Array (Option Value)} {xoc_NoMany xk_NoMany xdc_NoMany xpm_NoMany xcd_NoMany xct_NoMany : Value}
    {cn_NoText cq_NoText : Str} {cN_NoText fI_NoText : Addr} {cbs_NoText : List Value} {csn_NoText : List Str} {csub_NoText : List Value} {cab_NoText : Bool} {ccol_NoText : Option Bool} {cdd_NoText : Option Addr} {ck0_NoText ck1_NoText ck2_NoText ck3_NoText ck5_NoText : Option Value} {xod_NoText xan_NoText : Option Addr} {xsl_NoText : Array (Option Value)} {xoc_NoText xk_NoText xdc_NoText xpm_NoText xcd_NoText xct_NoText : Value}
    {cn_NoRow cq_NoRow : Str} {cN_NoRow fI_NoRow : Addr} {cbs_NoRow : List Value} {csn_NoRow : List Str} {csub_NoRow : List Value} {cab_NoRow : Bool} {ccol_NoRow : Option Bool} {cdd_NoRow : Option Addr} {ck0_NoRow ck1_NoRow ck2_NoRow ck3_NoRow ck5_NoRow : Option Value} {xod_NoRow xan_NoRow : Option Addr} {xsl_NoRow : Array (Option Value)} {xoc_NoRow xk_NoRow xdc_NoRow xpm_NoRow xcd_NoRow xct_NoRow : Value}
    {cn_NoName cq_NoName : Str} {cN_NoName fI_NoName : Addr} {cbs_NoName : List Value} {csn_NoName : List Str} {csub_NoName : List Value} {cab_NoName : Bool} {ccol_NoName : Option Bool} {cdd_NoName : Option Addr} {ck0_NoName ck1_NoName ck2_NoName ck3_NoName ck5_NoName : Option Value} {xod_NoName xan_NoName : Option Addr} {xsl_NoName : Array (Option Value)} {xoc_NoName xk_NoName xdc_NoName xpm_NoName xcd_NoName xct_NoName : Value}
    {cn_NoLot cq_NoLot : Str} {cN_NoLot fI_NoLot : Addr} {cbs_NoLot : List Value} {csn_NoLot : List Str} {csub_NoLot : List Value} {cab_NoLot : Bool} {ccol_NoLot : Option Bool} {cdd_NoLot : Option Addr} {ck0_NoLot ck1_NoLot ck2_NoLot ck3_NoLot ck5_NoLot : Option Value} {xod_NoLot xan_NoLot : Option Addr} {xsl_NoLot : Array (Option Value)} {xoc_NoLot xk_NoLot xdc_NoLot xpm_NoLot xcd_NoLot xct_NoLot : Value}
    {cn_NoPlace cq_NoPlace : Str} {cN_NoPlace fI_NoPlace : Addr} {cbs_NoPlace : List Value} {csn_NoPlace : List Str} {csub_NoPlace : List Value} {cab_NoPlace : Bool} {ccol_NoPlace : Option Bool} {cdd_NoPlace : Option Addr} {ck0_NoPlace ck1_NoPlace ck2_NoPlace ck3_NoPlace ck5_NoPlace : Option Value} {xod_NoPlace xan_NoPlace : Option Addr} {xsl_NoPlace : Array (Option Value)} {xoc_NoPlace xk_NoPlace xdc_NoPlace xpm_NoPlace xcd_NoPlace xct_NoPlace : Value}
    {cn_Fails cq_Fails : Str} {cN_Fails fI_Fails : Addr} {cbs_Fails : List Value} {csn_Fails : List Str} {csub_Fails : List Value} {cab_Fails : Bool} {ccol_Fails : Option Bool} {cdd_Fails : Option Addr} {ck0_Fails ck1_Fails ck2_Fails ck3_Fails ck5_Fails : Option Value} {xod_Fails xan_Fails : Option Addr} {xsl_Fails : Array (Option Value)} {xoc_Fails xk_Fails xdc_Fails xpm_Fails xcd_Fails xct_Fails : Value}
    {cn_TooMany cq_TooMany : Str} {cN_TooMany fI_TooMany : Addr} {cbs_TooMany : List Value} {csn_TooMany : List Str} {csub_TooMany : List Value} {cab_TooMany : Bool} {ccol_TooMany : Option Bool} {cdd_TooMany : Option Addr} {ck0_TooMany ck1_TooMany ck2_TooMany ck3_TooMany ck5_TooMany : Option Value} {xod_TooMany xan_TooMany : Option Addr} {xsl_TooMany : Array (Option Value)} {xoc_TooMany xk_TooMany xdc_TooMany xpm_TooMany xcd_TooMany xct_TooMany : Value}
    (a0 : PySem.W.nsIn K mainGlobals "is_number" = some (some (.ref f0))) (l0 : K.lookup f0 = some ⟨oc0, od0, .func (PySem.W.fnOf "is_number" "is_number" (defArgs di0.st) (defBody di0.st) (defScope di0.st) .none kV0 dc0 pm0 an0 cd0 ct0), sl0⟩) (c0 : PySem.W.codeIn K cd0 "is_number" = true) (k0 : PySem.W.keepIn K (.ref f0) = true)
    (a1 : PySem.W.nsIn K mainGlobals "divisor_of" = some (some (.ref f1))) (l1 : K.lookup f1 = some ⟨oc1, od1, .func (PySem.W.fnOf "divisor_of" "divisor_of" (defArgs di1.st) (defBody di1.st) (defScope di1.st) .none kV1 dc1 pm1 an1 cd1 ct1), sl1⟩) (c1 : PySem.W.codeIn K cd1 "divisor_of" = true) (k1 : PySem.W.keepIn K (.ref f1) = true)
    (a2 : PySem.W.nsIn K mainGlobals "is_fraction" = some (some (.ref f2))) (l2 : K.lookup f2 = some ⟨oc2, od2, .func (PySem.W.fnOf "is_fraction" "is_fraction" (defArgs di2.st) (defBody di2.st) (defScope di2.st) .none kV2 dc2 pm2 an2 cd2 ct2), sl2⟩) (c2 : PySem.W.codeIn K cd2 "is_fraction" = true) (k2 : PySem.W.keepIn K (.ref f2) = true)
    (a3 : PySem.W.nsIn K mainGlobals "lowest" = some (some (.ref f3))) (l3 : K.lookup f3 = some ⟨oc3, od3, .func (PySem.W.fnOf "lowest" "lowest" (defArgs di3.st) (defBody di3.st) (defScope di3.st) .none kV3 dc3 pm3 an3 cd3 ct3), sl3⟩) (c3 : PySem.W.codeIn K cd3 "lowest" = true) (k3 : PySem.W.keepIn K (.ref f3) = true)
    (d4 : K.lookup dT4 = some ⟨doc4, dod4, .seq #[(.int (1) tkd4_1)] dn4, dsl4⟩)
    (a4 : PySem.W.nsIn K mainGlobals "fraction" = some (some (.ref f4))) (l4 : K.lookup f4 = some ⟨oc4, od4, .func (PySem.W.fnOf "fraction" "fraction" (defArgs di4.st) (defBody di4.st) (defScope di4.st) (.ref dT4) kV4 dc4 pm4 an4 cd4 ct4), sl4⟩) (c4 : PySem.W.codeIn K cd4 "fraction" = true) (k4 : PySem.W.keepIn K (.ref f4) = true)
    (a5 : PySem.W.nsIn K mainGlobals "check_both" = some (some (.ref f5))) (l5 : K.lookup f5 = some ⟨oc5, od5, .func (PySem.W.fnOf "check_both" "check_both" (defArgs di5.st) (defBody di5.st) (defScope di5.st) .none kV5 dc5 pm5 an5 cd5 ct5), sl5⟩) (c5 : PySem.W.codeIn K cd5 "check_both" = true) (k5 : PySem.W.keepIn K (.ref f5) = true)
    (a6 : PySem.W.nsIn K mainGlobals "plus" = some (some (.ref f6))) (l6 : K.lookup f6 = some ⟨oc6, od6, .func (PySem.W.fnOf "plus" "plus" (defArgs di6.st) (defBody di6.st) (defScope di6.st) .none kV6 dc6 pm6 an6 cd6 ct6), sl6⟩) (c6 : PySem.W.codeIn K cd6 "plus" = true) (k6 : PySem.W.keepIn K (.ref f6) = true)
    (a7 : PySem.W.nsIn K mainGlobals "minus" = some (some (.ref f7))) (l7 : K.lookup f7 = some ⟨oc7, od7, .func (PySem.W.fnOf "minus" "minus" (defArgs di7.st) (defBody di7.st) (defScope di7.st) .none kV7 dc7 pm7 an7 cd7 ct7), sl7⟩) (c7 : PySem.W.codeIn K cd7 "minus" = true) (k7 : PySem.W.keepIn K (.ref f7) = true)
    (a8 : PySem.W.nsIn K mainGlobals "times" = some (some (.ref f8))) (l8 : K.lookup f8 = some ⟨oc8, od8, .func (PySem.W.fnOf "times" "times" (defArgs di8.st) (defBody di8.st) (defScope di8.st) .none kV8 dc8 pm8 an8 cd8 ct8), sl8⟩) (c8 : PySem.W.codeIn K cd8 "times" = true) (k8 : PySem.W.keepIn K (.ref f8) = true)
    (a9 : PySem.W.nsIn K mainGlobals "over" = some (some (.ref f9))) (l9 : K.lookup f9 = some ⟨oc9, od9, .func (PySem.W.fnOf "over" "over" (defArgs di9.st) (defBody di9.st) (defScope di9.st) .none kV9 dc9 pm9 an9 cd9 ct9), sl9⟩) (c9 : PySem.W.codeIn K cd9 "over" = true) (k9 : PySem.W.keepIn K (.ref f9) = true)
    (a10 : PySem.W.nsIn K mainGlobals "below" = some (some (.ref f10))) (l10 : K.lookup f10 = some ⟨oc10, od10, .func (PySem.W.fnOf "below" "below" (defArgs di10.st) (defBody di10.st) (defScope di10.st) .none kV10 dc10 pm10 an10 cd10 ct10), sl10⟩) (c10 : PySem.W.codeIn K cd10 "below" = true) (k10 : PySem.W.keepIn K (.ref f10) = true)
    (a11 : PySem.W.nsIn K mainGlobals "_law_cell" = some (some (.ref f11))) (l11 : K.lookup f11 = some ⟨oc11, od11, .func (PySem.W.fnOf "_law_cell" "_law_cell" (defArgs di11.st) (defBody di11.st) (defScope di11.st) .none kV11 dc11 pm11 an11 cd11 ct11), sl11⟩) (c11 : PySem.W.codeIn K cd11 "_law_cell" = true) (k11 : PySem.W.keepIn K (.ref f11) = true)
    (a12 : PySem.W.nsIn K mainGlobals "_law_pool" = some (some (.ref f12))) (l12 : K.lookup f12 = some ⟨oc12, od12, .func (PySem.W.fnOf "_law_pool" "_law_pool" (defArgs di12.st) (defBody di12.st) (defScope di12.st) .none kV12 dc12 pm12 an12 cd12 ct12), sl12⟩) (c12 : PySem.W.codeIn K cd12 "_law_pool" = true) (k12 : PySem.W.keepIn K (.ref f12) = true)
    (a13 : PySem.W.nsIn K mainGlobals "_law_take" = some (some (.ref f13))) (l13 : K.lookup f13 = some ⟨oc13, od13, .func (PySem.W.fnOf "_law_take" "_law_take" (defArgs di13.st) (defBody di13.st) (defScope di13.st) .none kV13 dc13 pm13 an13 cd13 ct13), sl13⟩) (c13 : PySem.W.codeIn K cd13 "_law_take" = true) (k13 : PySem.W.keepIn K (.ref f13) = true)
    (a14 : PySem.W.nsIn K mainGlobals "_law_low" = some (some (.ref f14))) (l14 : K.lookup f14 = some ⟨oc14, od14, .func (PySem.W.fnOf "_law_low" "_law_low" (defArgs di14.st) (defBody di14.st) (defScope di14.st) .none kV14 dc14 pm14 an14 cd14 ct14), sl14⟩) (c14 : PySem.W.codeIn K cd14 "_law_low" = true) (k14 : PySem.W.keepIn K (.ref f14) = true)
    (a15 : PySem.W.nsIn K mainGlobals "_law_sort" = some (some (.ref f15))) (l15 : K.lookup f15 = some ⟨oc15, od15, .func (PySem.W.fnOf "_law_sort" "_law_sort" (defArgs di15.st) (defBody di15.st) (defScope di15.st) .none kV15 dc15 pm15 an15 cd15 ct15), sl15⟩) (c15 : PySem.W.codeIn K cd15 "_law_sort" = true) (k15 : PySem.W.keepIn K (.ref f15) = true)
    (a16 : PySem.W.nsIn K mainGlobals "_law_number" = some (some (.ref f16))) (l16 : K.lookup f16 = some ⟨oc16, od16, .func (PySem.W.fnOf "_law_number" "_law_number" (defArgs di16.st) (defBody di16.st) (defScope di16.st) .none kV16 dc16 pm16 an16 cd16 ct16), sl16⟩) (c16 : PySem.W.codeIn K cd16 "_law_number" = true) (k16 : PySem.W.keepIn K (.ref f16) = true)
    (a17 : PySem.W.nsIn K mainGlobals "_law_one" = some (some (.ref f17))) (l17 : K.lookup f17 = some ⟨oc17, od17, .func (PySem.W.fnOf "_law_one" "_law_one" (defArgs di17.st) (defBody di17.st) (defScope di17.st) .none kV17 dc17 pm17 an17 cd17 ct17), sl17⟩) (c17 : PySem.W.codeIn K cd17 "_law_one" = true) (k17 : PySem.W.keepIn K (.ref f17) = true)
    (a18 : PySem.W.nsIn K mainGlobals "_law_odd_number" = some (some (.ref f18))) (l18 : K.lookup f18 = some ⟨oc18, od18, .func (PySem.W.fnOf "_law_odd_number" "_law_odd_number" (defArgs di18.st) (defBody di18.st) (defScope di18.st) .none kV18 dc18 pm18 an18 cd18 ct18), sl18⟩) (c18 : PySem.W.codeIn K cd18 "_law_odd_number" = true) (k18 : PySem.W.keepIn K (.ref f18) = true)
    (a19 : PySem.W.nsIn K mainGlobals "_law_odd_fraction" = some (some (.ref f19))) (l19 : K.lookup f19 = some ⟨oc19, od19, .func (PySem.W.fnOf "_law_odd_fraction" "_law_odd_fraction" (defArgs di19.st) (defBody di19.st) (defScope di19.st) .none kV19 dc19 pm19 an19 cd19 ct19), sl19⟩) (c19 : PySem.W.codeIn K cd19 "_law_odd_fraction" = true) (k19 : PySem.W.keepIn K (.ref f19) = true)
    (a20 : PySem.W.nsIn K mainGlobals "_law_asked" = some (some (.ref f20))) (l20 : K.lookup f20 = some ⟨oc20, od20, .func (PySem.W.fnOf "_law_asked" "_law_asked" (defArgs di20.st) (defBody di20.st) (defScope di20.st) .none kV20 dc20 pm20 an20 cd20 ct20), sl20⟩) (c20 : PySem.W.codeIn K cd20 "_law_asked" = true) (k20 : PySem.W.keepIn K (.ref f20) = true)
    (a21 : PySem.W.nsIn K mainGlobals "_law_is_fraction" = some (some (.ref f21))) (l21 : K.lookup f21 = some ⟨oc21, od21, .func (PySem.W.fnOf "_law_is_fraction" "_law_is_fraction" (defArgs di21.st) (defBody di21.st) (defScope di21.st) .none kV21 dc21 pm21 an21 cd21 ct21), sl21⟩) (c21 : PySem.W.codeIn K cd21 "_law_is_fraction" = true) (k21 : PySem.W.keepIn K (.ref f21) = true)
    (a22 : PySem.W.nsIn K mainGlobals "_law_doors_right" = some (some (.ref f22))) (l22 : K.lookup f22 = some ⟨oc22, od22, .func (PySem.W.fnOf "_law_doors_right" "_law_doors_right" (defArgs di22.st) (defBody di22.st) (defScope di22.st) .none kV22 dc22 pm22 an22 cd22 ct22), sl22⟩) (c22 : PySem.W.codeIn K cd22 "_law_doors_right" = true) (k22 : PySem.W.keepIn K (.ref f22) = true)
    (a23 : PySem.W.nsIn K mainGlobals "law" = some (some (.ref f23))) (l23 : K.lookup f23 = some ⟨oc23, od23, .func (PySem.W.fnOf "law" "law" (defArgs di23.st) (defBody di23.st) (defScope di23.st) .none kV23 dc23 pm23 an23 cd23 ct23), sl23⟩) (c23 : PySem.W.codeIn K cd23 "law" = true) (k23 : PySem.W.keepIn K (.ref f23) = true)
    (z0 : PySem.W.nsIn K mainGlobals "ArithmeticError" = some none)
    (z1 : PySem.W.nsIn K mainGlobals "LookupError" = some none)
    (z2 : PySem.W.nsIn K mainGlobals "ValueError" = some none)
    (z3 : PySem.W.nsIn K mainGlobals "abs" = some none)
    (z4 : PySem.W.nsIn K mainGlobals "all" = some none)
    (z5 : PySem.W.nsIn K mainGlobals "bool" = some none)
    (z6 : PySem.W.nsIn K mainGlobals "divmod" = some none)
    (z7 : PySem.W.nsIn K mainGlobals "enumerate" = some none)
    (z8 : PySem.W.nsIn K mainGlobals "int" = some none)
    (z9 : PySem.W.nsIn K mainGlobals "isinstance" = some none)
    (z10 : PySem.W.nsIn K mainGlobals "len" = some none)
    (z11 : PySem.W.nsIn K mainGlobals "max" = some none)
    (z12 : PySem.W.nsIn K mainGlobals "min" = some none)
    (z13 : PySem.W.nsIn K mainGlobals "range" = some none)
    (z14 : PySem.W.nsIn K mainGlobals "repr" = some none)
    (z15 : PySem.W.nsIn K mainGlobals "tuple" = some none)
    (glg0_7 : K.lookup gag0_1 = some ⟨.type "tuple", godg0_4, .seq #[(.int (0) tkg0_2), (.int (1) tkg0_3)] gng0_6, gslg0_5⟩)
    (gc0 : PySem.W.nsIn K mainGlobals "ZERO" = some (some (.ref gag0_1)))
    (xn_ThankError : PySem.W.nsIn K mainGlobals "ThankError" = some (some (.ref C_ThankError)))
    (xn_LostError : PySem.W.nsIn K mainGlobals "LostError" = some (some (.ref C_LostError)))
    (xn_StandError : PySem.W.nsIn K mainGlobals "StandError" = some (some (.ref C_StandError)))
    (xn_NoNumber : PySem.W.nsIn K mainGlobals "NoNumber" = some (some (.ref C_NoNumber)))
    (xn_NoDeed : PySem.W.nsIn K mainGlobals "NoDeed" = some (some (.ref C_NoDeed)))
    (xn_NoBook : PySem.W.nsIn K mainGlobals "NoBook" = some (some (.ref C_NoBook)))
    (xn_NoWeb : PySem.W.nsIn K mainGlobals "NoWeb" = some (some (.ref C_NoWeb)))
    (xn_NoNames : PySem.W.nsIn K mainGlobals "NoNames" = some (some (.ref C_NoNames)))
    (xn_NoAmount : PySem.W.nsIn K mainGlobals "NoAmount" = some (some (.ref C_NoAmount)))
    (xn_NoMany : PySem.W.nsIn K mainGlobals "NoMany" = some (some (.ref C_NoMany)))
    (xn_NoText : PySem.W.nsIn K mainGlobals "NoText" = some (some (.ref C_NoText)))
    (xn_NoRow : PySem.W.nsIn K mainGlobals "NoRow" = some (some (.ref C_NoRow)))
    (xn_NoName : PySem.W.nsIn K mainGlobals "NoName" = some (some (.ref C_NoName)))
    (xn_NoLot : PySem.W.nsIn K mainGlobals "NoLot" = some (some (.ref C_NoLot)))
    (xn_NoPlace : PySem.W.nsIn K mainGlobals "NoPlace" = some (some (.ref C_NoPlace)))
    (xn_NoBack : PySem.W.nsIn K mainGlobals "NoBack" = some (some (.ref C_NoBack)))
    (xn_Fails : PySem.W.nsIn K mainGlobals "Fails" = some (some (.ref C_Fails)))
    (xn_NoMates : PySem.W.nsIn K mainGlobals "NoMates" = some (some (.ref C_NoMates)))
    (xn_TooMany : PySem.W.nsIn K mainGlobals "TooMany" = some (some (.ref C_TooMany)))
    (rb_LostError : baseNB K C_LostError "LookupError.__init__" = true)
    (rb_StandError : baseNB K C_StandError "ArithmeticError.__init__" = true)
    (rb_ThankError : baseNB K C_ThankError "ValueError.__init__" = true)
    (xl_NoNumber : K.lookup C_NoNumber = some (excClassObj cn_NoNumber cq_NoNumber C_NoNumber cN_NoNumber cbs_NoNumber (.ref C_ThankError :: [.type "ValueError", .type "Exception", .type "BaseException", .type "object"]) true csn_NoNumber csub_NoNumber cab_NoNumber ccol_NoNumber cdd_NoNumber ck0_NoNumber ck1_NoNumber ck2_NoNumber ck3_NoNumber ck5_NoNumber "ValueError.__new__"))
    (xo_NoNumber : ownB K C_NoNumber ["place"] = true)
    (xi_NoNumber : PySem.W.findIn K (.ref C_NoNumber) "__init__" = some (some (.ref fI_NoNumber)))
    (xt_NoNumber : PySem.W.typeIn K (.ref fI_NoNumber) = some (.type "function"))
    (xf_NoNumber : K.lookup fI_NoNumber = some ⟨xoc_NoNumber, xod_NoNumber, .func (PySem.W.fnOf "__init__" "NoNumber.__init__" (defArgs (clsS (topS 4) 0)) (defBody (clsS (topS 4) 0)) (defScope (clsS (topS 4) 0)) .none xk_NoNumber xdc_NoNumber xpm_NoNumber xan_NoNumber xcd_NoNumber xct_NoNumber), xsl_NoNumber⟩)
    (xd_NoNumber : PySem.W.codeIn K xcd_NoNumber "NoNumber.__init__" = true)
    (xl_NoDeed : K.lookup C_NoDeed = some (excClassObj cn_NoDeed cq_NoDeed C_NoDeed cN_NoDeed cbs_NoDeed (.ref C_ThankError :: [.type "ValueError", .type "Exception", .type "BaseException", .type "object"]) true csn_NoDeed csub_NoDeed cab_NoDeed ccol_NoDeed cdd_NoDeed ck0_NoDeed ck1_NoDeed ck2_NoDeed ck3_NoDeed ck5_NoDeed "ValueError.__new__"))
    (xo_NoDeed : ownB K C_NoDeed ["deed"] = true)
    (xi_NoDeed : PySem.W.findIn K (.ref C_NoDeed) "__init__" = some (some (.ref fI_NoDeed)))
    (xt_NoDeed : PySem.W.typeIn K (.ref fI_NoDeed) = some (.type "function"))
    (xf_NoDeed : K.lookup fI_NoDeed = some ⟨xoc_NoDeed, xod_NoDeed, .func (PySem.W.fnOf "__init__" "NoDeed.__init__" (defArgs (clsS (topS 5) 0)) (defBody (clsS (topS 5) 0)) (defScope (clsS (topS 5) 0)) .none xk_NoDeed xdc_NoDeed xpm_NoDeed xan_NoDeed xcd_NoDeed xct_NoDeed), xsl_NoDeed⟩)
    (xd_NoDeed : PySem.W.codeIn K xcd_NoDeed "NoDeed.__init__" = true)
    (xl_NoBook : K.lookup C_NoBook = some (excClassObj cn_NoBook cq_NoBook C_NoBook cN_NoBook cbs_NoBook (.ref C_ThankError :: [.type "ValueError", .type "Exception", .type "BaseException", .type "object"]) true csn_NoBook csub_NoBook cab_NoBook ccol_NoBook cdd_NoBook ck0_NoBook ck1_NoBook ck2_NoBook ck3_NoBook ck5_NoBook "ValueError.__new__"))
    (xo_NoBook : ownB K C_NoBook ["number"] = true)
    (xi_NoBook : PySem.W.findIn K (.ref C_NoBook) "__init__" = some (some (.ref fI_NoBook)))
    (xt_NoBook : PySem.W.typeIn K (.ref fI_NoBook) = some (.type "function"))
    (xf_NoBook : K.lookup fI_NoBook = some ⟨xoc_NoBook, xod_NoBook, .func (PySem.W.fnOf "__init__" "NoBook.__init__" (defArgs (clsS (topS 6) 0)) (defBody (clsS (topS 6) 0)) (defScope (clsS (topS 6) 0)) .none xk_NoBook xdc_NoBook xpm_NoBook xan_NoBook xcd_NoBook xct_NoBook), xsl_NoBook⟩)
    (xd_NoBook : PySem.W.codeIn K xcd_NoBook "NoBook.__init__" = true)
    (xl_NoWeb : K.lookup C_NoWeb = some (excClassObj cn_NoWeb cq_NoWeb C_NoWeb cN_NoWeb cbs_NoWeb (.ref C_ThankError :: [.type "ValueError", .type "Exception", .type "BaseException", .type "object"]) true csn_NoWeb csub_NoWeb cab_NoWeb ccol_NoWeb cdd_NoWeb ck0_NoWeb ck1_NoWeb ck2_NoWeb ck3_NoWeb ck5_NoWeb "ValueError.__new__"))
    (xo_NoWeb : ownB K C_NoWeb ["thing"] = true)
    (xi_NoWeb : PySem.W.findIn K (.ref C_NoWeb) "__init__" = some (some (.ref fI_NoWeb)))
    (xt_NoWeb : PySem.W.typeIn K (.ref fI_NoWeb) = some (.type "function"))
    (xf_NoWeb : K.lookup fI_NoWeb = some ⟨xoc_NoWeb, xod_NoWeb, .func (PySem.W.fnOf "__init__" "NoWeb.__init__" (defArgs (clsS (topS 7) 0)) (defBody (clsS (topS 7) 0)) (defScope (clsS (topS 7) 0)) .none xk_NoWeb xdc_NoWeb xpm_NoWeb xan_NoWeb xcd_NoWeb xct_NoWeb), xsl_NoWeb⟩)
    (xd_NoWeb : PySem.W.codeIn K xcd_NoWeb "NoWeb.__init__" = true)
    (xl_NoNames : K.lookup C_NoNames = some (excClassObj cn_NoNames cq_NoNames C_NoNames cN_NoNames cbs_NoNames (.ref C_ThankError :: [.type "ValueError", .type "Exception", .type "BaseException", .type "object"]) true csn_NoNames csub_NoNames cab_NoNames ccol_NoNames cdd_NoNames ck0_NoNames ck1_NoNames ck2_NoNames ck3_NoNames ck5_NoNames "ValueError.__new__"))
    (xo_NoNames : ownB K C_NoNames ["names"] = true)
    (xi_NoNames : PySem.W.findIn K (.ref C_NoNames) "__init__" = some (some (.ref fI_NoNames)))
    (xt_NoNames : PySem.W.typeIn K (.ref fI_NoNames) = some (.type "function"))
    (xf_NoNames : K.lookup fI_NoNames = some ⟨xoc_NoNames, xod_NoNames, .func (PySem.W.fnOf "__init__" "NoNames.__init__" (defArgs (clsS (topS 8) 0)) (defBody (clsS (topS 8) 0)) (defScope (clsS (topS 8) 0)) .none xk_NoNames xdc_NoNames xpm_NoNames xan_NoNames xcd_NoNames xct_NoNames), xsl_NoNames⟩)
    (xd_NoNames : PySem.W.codeIn K xcd_NoNames "NoNames.__init__" = true)
    (xl_NoAmount : K.lookup C_NoAmount = some (excClassObj cn_NoAmount cq_NoAmount C_NoAmount cN_NoAmount cbs_NoAmount (.ref C_ThankError :: [.type "ValueError", .type "Exception", .type "BaseException", .type "object"]) true csn_NoAmount csub_NoAmount cab_NoAmount ccol_NoAmount cdd_NoAmount ck0_NoAmount ck1_NoAmount ck2_NoAmount ck3_NoAmount ck5_NoAmount "ValueError.__new__"))
    (xo_NoAmount : ownB K C_NoAmount ["amount"] = true)
    (xi_NoAmount : PySem.W.findIn K (.ref C_NoAmount) "__init__" = some (some (.ref fI_NoAmount)))
    (xt_NoAmount : PySem.W.typeIn K (.ref fI_NoAmount) = some (.type "function"))
    (xf_NoAmount : K.lookup fI_NoAmount = some ⟨xoc_NoAmount, xod_NoAmount, .func (PySem.W.fnOf "__init__" "NoAmount.__init__" (defArgs (clsS (topS 9) 0)) (defBody (clsS (topS 9) 0)) (defScope (clsS (topS 9) 0)) .none xk_NoAmount xdc_NoAmount xpm_NoAmount xan_NoAmount xcd_NoAmount xct_NoAmount), xsl_NoAmount⟩)
    (xd_NoAmount : PySem.W.codeIn K xcd_NoAmount "NoAmount.__init__" = true)
    (xl_NoMany : K.lookup C_NoMany = some (excClassObj cn_NoMany cq_NoMany C_NoMany cN_NoMany cbs_NoMany (.ref C_ThankError :: [.type "ValueError", .type "Exception", .type "BaseException", .type "object"]) true csn_NoMany csub_NoMany cab_NoMany ccol_NoMany cdd_NoMany ck0_NoMany ck1_NoMany ck2_NoMany ck3_NoMany ck5_NoMany "ValueError.__new__"))
    (xo_NoMany : ownB K C_NoMany ["many"] = true)
    (xi_NoMany : PySem.W.findIn K (.ref C_NoMany) "__init__" = some (some (.ref fI_NoMany)))
    (xt_NoMany : PySem.W.typeIn K (.ref fI_NoMany) = some (.type "function"))
    (xf_NoMany : K.lookup fI_NoMany = some ⟨xoc_NoMany, xod_NoMany, .func (PySem.W.fnOf "__init__" "NoMany.__init__" (defArgs (clsS (topS 10) 0)) (defBody (clsS (topS 10) 0)) (defScope (clsS (topS 10) 0)) .none xk_NoMany xdc_NoMany xpm_NoMany xan_NoMany xcd_NoMany xct_NoMany), xsl_NoMany⟩)
    (xd_NoMany : PySem.W.codeIn K xcd_NoMany "NoMany.__init__" = true)
    (xl_NoText : K.lookup C_NoText = some (excClassObj cn_NoText cq_NoText C_NoText cN_NoText cbs_NoText (.ref C_ThankError :: [.type "ValueError", .type "Exception", .type "BaseException", .type "object"]) true csn_NoText csub_NoText cab_NoText ccol_NoText cdd_NoText ck0_NoText ck1_NoText ck2_NoText ck3_NoText ck5_NoText "ValueError.__new__"))
    (xo_NoText : ownB K C_NoText ["row"] = true)
    (xi_NoText : PySem.W.findIn K (.ref C_NoText) "__init__" = some (some (.ref fI_NoText)))
    (xt_NoText : PySem.W.typeIn K (.ref fI_NoText) = some (.type "function"))
    (xf_NoText : K.lookup fI_NoText = some ⟨xoc_NoText, xod_NoText, .func (PySem.W.fnOf "__init__" "NoText.__init__" (defArgs (clsS (topS 11) 0)) (defBody (clsS (topS 11) 0)) (defScope (clsS (topS 11) 0)) .none xk_NoText xdc_NoText xpm_NoText xan_NoText xcd_NoText xct_NoText), xsl_NoText⟩)
    (xd_NoText : PySem.W.codeIn K xcd_NoText "NoText.__init__" = true)
    (xl_NoRow : K.lookup C_NoRow = some (excClassObj cn_NoRow cq_NoRow C_NoRow cN_NoRow cbs_NoRow (.ref C_ThankError :: [.type "ValueError", .type "Exception", .type "BaseException", .type "object"]) true csn_NoRow csub_NoRow cab_NoRow ccol_NoRow cdd_NoRow ck0_NoRow ck1_NoRow ck2_NoRow ck3_NoRow ck5_NoRow "ValueError.__new__"))
    (xo_NoRow : ownB K C_NoRow ["row"] = true)
    (xi_NoRow : PySem.W.findIn K (.ref C_NoRow) "__init__" = some (some (.ref fI_NoRow)))
    (xt_NoRow : PySem.W.typeIn K (.ref fI_NoRow) = some (.type "function"))
    (xf_NoRow : K.lookup fI_NoRow = some ⟨xoc_NoRow, xod_NoRow, .func (PySem.W.fnOf "__init__" "NoRow.__init__" (defArgs (clsS (topS 12) 0)) (defBody (clsS (topS 12) 0)) (defScope (clsS (topS 12) 0)) .none xk_NoRow xdc_NoRow xpm_NoRow xan_NoRow xcd_NoRow xct_NoRow), xsl_NoRow⟩)
    (xd_NoRow : PySem.W.codeIn K xcd_NoRow "NoRow.__init__" = true)
    (xl_NoName : K.lookup C_NoName = some (excClassObj cn_NoName cq_NoName C_NoName cN_NoName cbs_NoName (.ref C_LostError :: [.type "LookupError", .type "Exception", .type "BaseException", .type "object"]) true csn_NoName csub_NoName cab_NoName ccol_NoName cdd_NoName ck0_NoName ck1_NoName ck2_NoName ck3_NoName ck5_NoName "LookupError.__new__"))
    (xo_NoName : ownB K C_NoName ["name"] = true)
    (xi_NoName : PySem.W.findIn K (.ref C_NoName) "__init__" = some (some (.ref fI_NoName)))
    (xt_NoName : PySem.W.typeIn K (.ref fI_NoName) = some (.type "function"))
    (xf_NoName : K.lookup fI_NoName = some ⟨xoc_NoName, xod_NoName, .func (PySem.W.fnOf "__init__" "NoName.__init__" (defArgs (clsS (topS 13) 0)) (defBody (clsS (topS 13) 0)) (defScope (clsS (topS 13) 0)) .none xk_NoName xdc_NoName xpm_NoName xan_NoName xcd_NoName xct_NoName), xsl_NoName⟩)
    (xd_NoName : PySem.W.codeIn K xcd_NoName "NoName.__init__" = true)
    (xl_NoLot : K.lookup C_NoLot = some (excClassObj cn_NoLot cq_NoLot C_NoLot cN_NoLot cbs_NoLot (.ref C_LostError :: [.type "LookupError", .type "Exception", .type "BaseException", .type "object"]) true csn_NoLot csub_NoLot cab_NoLot ccol_NoLot cdd_NoLot ck0_NoLot ck1_NoLot ck2_NoLot ck3_NoLot ck5_NoLot "LookupError.__new__"))
    (xo_NoLot : ownB K C_NoLot ["name"] = true)
    (xi_NoLot : PySem.W.findIn K (.ref C_NoLot) "__init__" = some (some (.ref fI_NoLot)))
    (xt_NoLot : PySem.W.typeIn K (.ref fI_NoLot) = some (.type "function"))
    (xf_NoLot : K.lookup fI_NoLot = some ⟨xoc_NoLot, xod_NoLot, .func (PySem.W.fnOf "__init__" "NoLot.__init__" (defArgs (clsS (topS 14) 0)) (defBody (clsS (topS 14) 0)) (defScope (clsS (topS 14) 0)) .none xk_NoLot xdc_NoLot xpm_NoLot xan_NoLot xcd_NoLot xct_NoLot), xsl_NoLot⟩)
    (xd_NoLot : PySem.W.codeIn K xcd_NoLot "NoLot.__init__" = true)
    (xl_NoPlace : K.lookup C_NoPlace = some (excClassObj cn_NoPlace cq_NoPlace C_NoPlace cN_NoPlace cbs_NoPlace (.ref C_LostError :: [.type "LookupError", .type "Exception", .type "BaseException", .type "object"]) true csn_NoPlace csub_NoPlace cab_NoPlace ccol_NoPlace cdd_NoPlace ck0_NoPlace ck1_NoPlace ck2_NoPlace ck3_NoPlace ck5_NoPlace "LookupError.__new__"))
    (xo_NoPlace : ownB K C_NoPlace ["number"] = true)
    (xi_NoPlace : PySem.W.findIn K (.ref C_NoPlace) "__init__" = some (some (.ref fI_NoPlace)))
    (xt_NoPlace : PySem.W.typeIn K (.ref fI_NoPlace) = some (.type "function"))
    (xf_NoPlace : K.lookup fI_NoPlace = some ⟨xoc_NoPlace, xod_NoPlace, .func (PySem.W.fnOf "__init__" "NoPlace.__init__" (defArgs (clsS (topS 15) 0)) (defBody (clsS (topS 15) 0)) (defScope (clsS (topS 15) 0)) .none xk_NoPlace xdc_NoPlace xpm_NoPlace xan_NoPlace xcd_NoPlace xct_NoPlace), xsl_NoPlace⟩)
    (xd_NoPlace : PySem.W.codeIn K xcd_NoPlace "NoPlace.__init__" = true)
    (xl_Fails : K.lookup C_Fails = some (excClassObj cn_Fails cq_Fails C_Fails cN_Fails cbs_Fails (.ref C_StandError :: [.type "ArithmeticError", .type "Exception", .type "BaseException", .type "object"]) true csn_Fails csub_Fails cab_Fails ccol_Fails cdd_Fails ck0_Fails ck1_Fails ck2_Fails ck3_Fails ck5_Fails "ArithmeticError.__new__"))
    (xo_Fails : ownB K C_Fails ["number", "word"] = true)
    (xi_Fails : PySem.W.findIn K (.ref C_Fails) "__init__" = some (some (.ref fI_Fails)))
    (xt_Fails : PySem.W.typeIn K (.ref fI_Fails) = some (.type "function"))
    (xf_Fails : K.lookup fI_Fails = some ⟨xoc_Fails, xod_Fails, .func (PySem.W.fnOf "__init__" "Fails.__init__" (defArgs (clsS (topS 17) 0)) (defBody (clsS (topS 17) 0)) (defScope (clsS (topS 17) 0)) .none xk_Fails xdc_Fails xpm_Fails xan_Fails xcd_Fails xct_Fails), xsl_Fails⟩)
    (xd_Fails : PySem.W.codeIn K xcd_Fails "Fails.__init__" = true)
    (xl_TooMany : K.lookup C_TooMany = some (excClassObj cn_TooMany cq_TooMany C_TooMany cN_TooMany cbs_TooMany (.ref C_StandError :: [.type "ArithmeticError", .type "Exception", .type "BaseException", .type "object"]) true csn_TooMany csub_TooMany cab_TooMany ccol_TooMany cdd_TooMany ck0_TooMany ck1_TooMany ck2_TooMany ck3_TooMany ck5_TooMany "ArithmeticError.__new__"))
    (xo_TooMany : ownB K C_TooMany ["many"] = true)
    (xi_TooMany : PySem.W.findIn K (.ref C_TooMany) "__init__" = some (some (.ref fI_TooMany)))
    (xt_TooMany : PySem.W.typeIn K (.ref fI_TooMany) = some (.type "function"))
    (xf_TooMany : K.lookup fI_TooMany = some ⟨xoc_TooMany, xod_TooMany, .func (PySem.W.fnOf "__init__" "TooMany.__init__" (defArgs (clsS (topS 19) 0)) (defBody (clsS (topS 19) 0)) (defScope (clsS (topS 19) 0)) .none xk_TooMany xdc_TooMany xpm_TooMany xan_TooMany xcd_TooMany xct_TooMany), xsl_TooMany⟩)
    (xd_TooMany : PySem.W.codeIn K xcd_TooMany "TooMany.__init__" = true)
    (xr_NoNumber : xrB K [("NoNumber", C_NoNumber), ("NoDeed", C_NoDeed), ("NoBook", C_NoBook), ("NoWeb", C_NoWeb), ("NoNames", C_NoNames), ("NoAmount", C_NoAmount), ("NoMany", C_NoMany), ("NoText", C_NoText), ("NoRow", C_NoRow), ("NoName", C_NoName), ("NoLot", C_NoLot), ("NoPlace", C_NoPlace), ("NoBack", C_NoBack), ("Fails", C_Fails), ("NoMates", C_NoMates), ("TooMany", C_TooMany)] (.ref C_NoNumber) [("NoNumber", true), ("NoDeed", false), ("NoBook", false), ("NoWeb", false), ("NoNames", false), ("NoAmount", false), ("NoMany", false), ("NoText", false), ("NoRow", false), ("NoName", false), ("NoLot", false), ("NoPlace", false), ("NoBack", false), ("Fails", false), ("NoMates", false), ("TooMany", false)] = true)
    (xr_NoDeed : xrB K [("NoNumber", C_NoNumber), ("NoDeed", C_NoDeed), ("NoBook", C_NoBook), ("NoWeb", C_NoWeb), ("NoNames", C_NoNames), ("NoAmount", C_NoAmount), ("NoMany", C_NoMany), ("NoText", C_NoText), ("NoRow", C_NoRow), ("NoName", C_NoName), ("NoLot", C_NoLot), ("NoPlace", C_NoPlace), ("NoBack", C_NoBack), ("Fails", C_Fails), ("NoMates", C_NoMates), ("TooMany", C_TooMany)] (.ref C_NoDeed) [("NoNumber", false), ("NoDeed", true), ("NoBook", false), ("NoWeb", false), ("NoNames", false), ("NoAmount", false), ("NoMany", false), ("NoText", false), ("NoRow", false), ("NoName", false), ("NoLot", false), ("NoPlace", false), ("NoBack", false), ("Fails", false), ("NoMates", false), ("TooMany", false)] = true)
    (xr_NoBook : xrB K [("NoNumber", C_NoNumber), ("NoDeed", C_NoDeed), ("NoBook", C_NoBook), ("NoWeb", C_NoWeb), ("NoNames", C_NoNames), ("NoAmount", C_NoAmount), ("NoMany", C_NoMany), ("NoText", C_NoText), ("NoRow", C_NoRow), ("NoName", C_NoName), ("NoLot", C_NoLot), ("NoPlace", C_NoPlace), ("NoBack", C_NoBack), ("Fails", C_Fails), ("NoMates", C_NoMates), ("TooMany", C_TooMany)] (.ref C_NoBook) [("NoNumber", false), ("NoDeed", false), ("NoBook", true), ("NoWeb", false), ("NoNames", false), ("NoAmount", false), ("NoMany", false), ("NoText", false), ("NoRow", false), ("NoName", false), ("NoLot", false), ("NoPlace", false), ("NoBack", false), ("Fails", false), ("NoMates", false), ("TooMany", false)] = true)
    (xr_ThankError : xrB K [("NoNumber", C_NoNumber), ("NoDeed", C_NoDeed), ("NoBook", C_NoBook), ("NoWeb", C_NoWeb), ("NoNames", C_NoNames), ("NoAmount", C_NoAmount), ("NoMany", C_NoMany), ("NoText", C_NoText), ("NoRow", C_NoRow), ("NoName", C_NoName), ("NoLot", C_NoLot), ("NoPlace", C_NoPlace), ("NoBack", C_NoBack), ("Fails", C_Fails), ("NoMates", C_NoMates), ("TooMany", C_TooMany)] (.ref C_ThankError) [("NoNumber", true), ("NoDeed", true), ("NoBook", true), ("NoWeb", true), ("NoNames", true), ("NoAmount", true), ("NoMany", true), ("NoText", true), ("NoRow", true), ("NoName", false), ("NoLot", false), ("NoPlace", false), ("NoBack", false), ("Fails", false), ("NoMates", false), ("TooMany", false)] = true)
    (xr_LostError : xrB K [("NoNumber", C_NoNumber), ("NoDeed", C_NoDeed), ("NoBook", C_NoBook), ("NoWeb", C_NoWeb), ("NoNames", C_NoNames), ("NoAmount", C_NoAmount), ("NoMany", C_NoMany), ("NoText", C_NoText), ("NoRow", C_NoRow), ("NoName", C_NoName), ("NoLot", C_NoLot), ("NoPlace", C_NoPlace), ("NoBack", C_NoBack), ("Fails", C_Fails), ("NoMates", C_NoMates), ("TooMany", C_TooMany)] (.ref C_LostError) [("NoNumber", false), ("NoDeed", false), ("NoBook", false), ("NoWeb", false), ("NoNames", false), ("NoAmount", false), ("NoMany", false), ("NoText", false), ("NoRow", false), ("NoName", true), ("NoLot", true), ("NoPlace", true), ("NoBack", true), ("Fails", false), ("NoMates", false), ("TooMany", false)] = true)
    (xr_StandError : xrB K [("NoNumber", C_NoNumber), ("NoDeed", C_NoDeed), ("NoBook", C_NoBook), ("NoWeb", C_NoWeb), ("NoNames", C_NoNames), ("NoAmount", C_NoAmount), ("NoMany", C_NoMany), ("NoText", C_NoText), ("NoRow", C_NoRow), ("NoName", C_NoName), ("NoLot", C_NoLot), ("NoPlace", C_NoPlace), ("NoBack", C_NoBack), ("Fails", C_Fails), ("NoMates", C_NoMates), ("TooMany", C_TooMany)] (.ref C_StandError) [("NoNumber", false), ("NoDeed", false), ("NoBook", false), ("NoWeb", false), ("NoNames", false), ("NoAmount", false), ("NoMany", false), ("NoText", false), ("NoRow", false), ("NoName", false), ("NoLot", false), ("NoPlace", false), ("NoBack", false), ("Fails", true), ("NoMates", true), ("TooMany", true)] = true)
    (xr_ValueError : xrB K [("NoNumber", C_NoNumber), ("NoDeed", C_NoDeed), ("NoBook", C_NoBook), ("NoWeb", C_NoWeb), ("NoNames", C_NoNames), ("NoAmount", C_NoAmount), ("NoMany", C_NoMany), ("NoText", C_NoText), ("NoRow", C_NoRow), ("NoName", C_NoName), ("NoLot", C_NoLot), ("NoPlace", C_NoPlace), ("NoBack", C_NoBack), ("Fails", C_Fails), ("NoMates", C_NoMates), ("TooMany", C_TooMany)] (.type "ValueError") [("NoNumber", true), ("NoDeed", true), ("NoBook", true), ("NoWeb", true), ("NoNames", true), ("NoAmount", true), ("NoMany", true), ("NoText", true), ("NoRow", true), ("NoName", false), ("NoLot", false), ("NoPlace", false), ("NoBack", false), ("Fails", false), ("NoMates", false), ("TooMany", false)] = true)
    (xr_LookupError : xrB K [("NoNumber", C_NoNumber), ("NoDeed", C_NoDeed), ("NoBook", C_NoBook), ("NoWeb", C_NoWeb), ("NoNames", C_NoNames), ("NoAmount", C_NoAmount), ("NoMany", C_NoMany), ("NoText", C_NoText), ("NoRow", C_NoRow), ("NoName", C_NoName), ("NoLot", C_NoLot), ("NoPlace", C_NoPlace), ("NoBack", C_NoBack), ("Fails", C_Fails), ("NoMates", C_NoMates), ("TooMany", C_TooMany)] (.type "LookupError") [("NoNumber", false), ("NoDeed", false), ("NoBook", false), ("NoWeb", false), ("NoNames", false), ("NoAmount", false), ("NoMany", false), ("NoText", false), ("NoRow", false), ("NoName", true), ("NoLot", true), ("NoPlace", true), ("NoBack", true), ("Fails", false), ("NoMates", false), ("TooMany", false)] = true)
    (xr_ArithmeticError : xrB K [("NoNumber", C_NoNumber), ("NoDeed", C_NoDeed), ("NoBook", C_NoBook), ("NoWeb", C_NoWeb), ("NoNames", C_NoNames), ("NoAmount", C_NoAmount), ("NoMany", C_NoMany), ("NoText", C_NoText), ("NoRow", C_NoRow), ("NoName", C_NoName), ("NoLot", C_NoLot), ("NoPlace", C_NoPlace), ("NoBack", C_NoBack), ("Fails", C_Fails), ("NoMates", C_NoMates), ("TooMany", C_TooMany)] (.type "ArithmeticError") [("NoNumber", false), ("NoDeed", false), ("NoBook", false), ("NoWeb", false), ("NoNames", false), ("NoAmount", false), ("NoMany", false), ("NoText", false), ("NoRow", false), ("NoName", false), ("NoLot", false), ("NoPlace", false), ("NoBack", false), ("Fails", true), ("NoMates", true), ("TooMany", true)] = true)
    (xr_NoWeb : xrB K [("NoNumber", C_NoNumber), ("NoDeed", C_NoDeed), ("NoBook", C_NoBook), ("NoWeb", C_NoWeb), ("NoNames", C_NoNames), ("NoAmount", C_NoAmount), ("NoMany", C_NoMany), ("NoText", C_NoText), ("NoRow", C_NoRow), ("NoName", C_NoName), ("NoLot", C_NoLot), ("NoPlace", C_NoPlace), ("NoBack", C_NoBack), ("Fails", C_Fails), ("NoMates", C_NoMates), ("TooMany", C_TooMany)] (.ref C_NoWeb) [("NoNumber", false), ("NoDeed", false), ("NoBook", false), ("NoWeb", true), ("NoNames", false), ("NoAmount", false), ("NoMany", false), ("NoText", false), ("NoRow", false), ("NoName", false), ("NoLot", false), ("NoPlace", false), ("NoBack", false), ("Fails", false), ("NoMates", false), ("TooMany", false)] = true)
    (xr_NoNames : xrB K [("NoNumber", C_NoNumber), ("NoDeed", C_NoDeed), ("NoBook", C_NoBook), ("NoWeb", C_NoWeb), ("NoNames", C_NoNames), ("NoAmount", C_NoAmount), ("NoMany", C_NoMany), ("NoText", C_NoText), ("NoRow", C_NoRow), ("NoName", C_NoName), ("NoLot", C_NoLot), ("NoPlace", C_NoPlace), ("NoBack", C_NoBack), ("Fails", C_Fails), ("NoMates", C_NoMates), ("TooMany", C_TooMany)] (.ref C_NoNames) [("NoNumber", false), ("NoDeed", false), ("NoBook", false), ("NoWeb", false), ("NoNames", true), ("NoAmount", false), ("NoMany", false), ("NoText", false), ("NoRow", false), ("NoName", false), ("NoLot", false), ("NoPlace", false), ("NoBack", false), ("Fails", false), ("NoMates", false), ("TooMany", false)] = true)
    (xr_NoAmount : xrB K [("NoNumber", C_NoNumber), ("NoDeed", C_NoDeed), ("NoBook", C_NoBook), ("NoWeb", C_NoWeb), ("NoNames", C_NoNames), ("NoAmount", C_NoAmount), ("NoMany", C_NoMany), ("NoText", C_NoText), ("NoRow", C_NoRow), ("NoName", C_NoName), ("NoLot", C_NoLot), ("NoPlace", C_NoPlace), ("NoBack", C_NoBack), ("Fails", C_Fails), ("NoMates", C_NoMates), ("TooMany", C_TooMany)] (.ref C_NoAmount) [("NoNumber", false), ("NoDeed", false), ("NoBook", false), ("NoWeb", false), ("NoNames", false), ("NoAmount", true), ("NoMany", false), ("NoText", false), ("NoRow", false), ("NoName", false), ("NoLot", false), ("NoPlace", false), ("NoBack", false), ("Fails", false), ("NoMates", false), ("TooMany", false)] = true)
    (xr_NoMany : xrB K [("NoNumber", C_NoNumber), ("NoDeed", C_NoDeed), ("NoBook", C_NoBook), ("NoWeb", C_NoWeb), ("NoNames", C_NoNames), ("NoAmount", C_NoAmount), ("NoMany", C_NoMany), ("NoText", C_NoText), ("NoRow", C_NoRow), ("NoName", C_NoName), ("NoLot", C_NoLot), ("NoPlace", C_NoPlace), ("NoBack", C_NoBack), ("Fails", C_Fails), ("NoMates", C_NoMates), ("TooMany", C_TooMany)] (.ref C_NoMany) [("NoNumber", false), ("NoDeed", false), ("NoBook", false), ("NoWeb", false), ("NoNames", false), ("NoAmount", false), ("NoMany", true), ("NoText", false), ("NoRow", false), ("NoName", false), ("NoLot", false), ("NoPlace", false), ("NoBack", false), ("Fails", false), ("NoMates", false), ("TooMany", false)] = true)
    (xr_NoText : xrB K [("NoNumber", C_NoNumber), ("NoDeed", C_NoDeed), ("NoBook", C_NoBook), ("NoWeb", C_NoWeb), ("NoNames", C_NoNames), ("NoAmount", C_NoAmount), ("NoMany", C_NoMany), ("NoText", C_NoText), ("NoRow", C_NoRow), ("NoName", C_NoName), ("NoLot", C_NoLot), ("NoPlace", C_NoPlace), ("NoBack", C_NoBack), ("Fails", C_Fails), ("NoMates", C_NoMates), ("TooMany", C_TooMany)] (.ref C_NoText) [("NoNumber", false), ("NoDeed", false), ("NoBook", false), ("NoWeb", false), ("NoNames", false), ("NoAmount", false), ("NoMany", false), ("NoText", true), ("NoRow", false), ("NoName", false), ("NoLot", false), ("NoPlace", false), ("NoBack", false), ("Fails", false), ("NoMates", false), ("TooMany", false)] = true)
    (xr_NoRow : xrB K [("NoNumber", C_NoNumber), ("NoDeed", C_NoDeed), ("NoBook", C_NoBook), ("NoWeb", C_NoWeb), ("NoNames", C_NoNames), ("NoAmount", C_NoAmount), ("NoMany", C_NoMany), ("NoText", C_NoText), ("NoRow", C_NoRow), ("NoName", C_NoName), ("NoLot", C_NoLot), ("NoPlace", C_NoPlace), ("NoBack", C_NoBack), ("Fails", C_Fails), ("NoMates", C_NoMates), ("TooMany", C_TooMany)] (.ref C_NoRow) [("NoNumber", false), ("NoDeed", false), ("NoBook", false), ("NoWeb", false), ("NoNames", false), ("NoAmount", false), ("NoMany", false), ("NoText", false), ("NoRow", true), ("NoName", false), ("NoLot", false), ("NoPlace", false), ("NoBack", false), ("Fails", false), ("NoMates", false), ("TooMany", false)] = true)
    (xr_NoName : xrB K [("NoNumber", C_NoNumber), ("NoDeed", C_NoDeed), ("NoBook", C_NoBook), ("NoWeb", C_NoWeb), ("NoNames", C_NoNames), ("NoAmount", C_NoAmount), ("NoMany", C_NoMany), ("NoText", C_NoText), ("NoRow", C_NoRow), ("NoName", C_NoName), ("NoLot", C_NoLot), ("NoPlace", C_NoPlace), ("NoBack", C_NoBack), ("Fails", C_Fails), ("NoMates", C_NoMates), ("TooMany", C_TooMany)] (.ref C_NoName) [("NoNumber", false), ("NoDeed", false), ("NoBook", false), ("NoWeb", false), ("NoNames", false), ("NoAmount", false), ("NoMany", false), ("NoText", false), ("NoRow", false), ("NoName", true), ("NoLot", false), ("NoPlace", false), ("NoBack", false), ("Fails", false), ("NoMates", false), ("TooMany", false)] = true)
    (xr_NoLot : xrB K [("NoNumber", C_NoNumber), ("NoDeed", C_NoDeed), ("NoBook", C_NoBook), ("NoWeb", C_NoWeb), ("NoNames", C_NoNames), ("NoAmount", C_NoAmount), ("NoMany", C_NoMany), ("NoText", C_NoText), ("NoRow", C_NoRow), ("NoName", C_NoName), ("NoLot", C_NoLot), ("NoPlace", C_NoPlace), ("NoBack", C_NoBack), ("Fails", C_Fails), ("NoMates", C_NoMates), ("TooMany", C_TooMany)] (.ref C_NoLot) [("NoNumber", false), ("NoDeed", false), ("NoBook", false), ("NoWeb", false), ("NoNames", false), ("NoAmount", false), ("NoMany", false), ("NoText", false), ("NoRow", false), ("NoName", false), ("NoLot", true), ("NoPlace", false), ("NoBack", false), ("Fails", false), ("NoMates", false), ("TooMany", false)] = true)
    (xr_NoPlace : xrB K [("NoNumber", C_NoNumber), ("NoDeed", C_NoDeed), ("NoBook", C_NoBook), ("NoWeb", C_NoWeb), ("NoNames", C_NoNames), ("NoAmount", C_NoAmount), ("NoMany", C_NoMany), ("NoText", C_NoText), ("NoRow", C_NoRow), ("NoName", C_NoName), ("NoLot", C_NoLot), ("NoPlace", C_NoPlace), ("NoBack", C_NoBack), ("Fails", C_Fails), ("NoMates", C_NoMates), ("TooMany", C_TooMany)] (.ref C_NoPlace) [("NoNumber", false), ("NoDeed", false), ("NoBook", false), ("NoWeb", false), ("NoNames", false), ("NoAmount", false), ("NoMany", false), ("NoText", false), ("NoRow", false), ("NoName", false), ("NoLot", false), ("NoPlace", true), ("NoBack", false), ("Fails", false), ("NoMates", false), ("TooMany", false)] = true)
    (xr_NoBack : xrB K [("NoNumber", C_NoNumber), ("NoDeed", C_NoDeed), ("NoBook", C_NoBook), ("NoWeb", C_NoWeb), ("NoNames", C_NoNames), ("NoAmount", C_NoAmount), ("NoMany", C_NoMany), ("NoText", C_NoText), ("NoRow", C_NoRow), ("NoName", C_NoName), ("NoLot", C_NoLot), ("NoPlace", C_NoPlace), ("NoBack", C_NoBack), ("Fails", C_Fails), ("NoMates", C_NoMates), ("TooMany", C_TooMany)] (.ref C_NoBack) [("NoNumber", false), ("NoDeed", false), ("NoBook", false), ("NoWeb", false), ("NoNames", false), ("NoAmount", false), ("NoMany", false), ("NoText", false), ("NoRow", false), ("NoName", false), ("NoLot", false), ("NoPlace", false), ("NoBack", true), ("Fails", false), ("NoMates", false), ("TooMany", false)] = true)
    (xr_Fails : xrB K [("NoNumber", C_NoNumber), ("NoDeed", C_NoDeed), ("NoBook", C_NoBook), ("NoWeb", C_NoWeb), ("NoNames", C_NoNames), ("NoAmount", C_NoAmount), ("NoMany", C_NoMany), ("NoText", C_NoText), ("NoRow", C_NoRow), ("NoName", C_NoName), ("NoLot", C_NoLot), ("NoPlace", C_NoPlace), ("NoBack", C_NoBack), ("Fails", C_Fails), ("NoMates", C_NoMates), ("TooMany", C_TooMany)] (.ref C_Fails) [("NoNumber", false), ("NoDeed", false), ("NoBook", false), ("NoWeb", false), ("NoNames", false), ("NoAmount", false), ("NoMany", false), ("NoText", false), ("NoRow", false), ("NoName", false), ("NoLot", false), ("NoPlace", false), ("NoBack", false), ("Fails", true), ("NoMates", false), ("TooMany", false)] = true)
    (xr_NoMates : xrB K [("NoNumber", C_NoNumber), ("NoDeed", C_NoDeed), ("NoBook", C_NoBook), ("NoWeb", C_NoWeb), ("NoNames", C_NoNames), ("NoAmount", C_NoAmount), ("NoMany", C_NoMany), ("NoText", C_NoText), ("NoRow", C_NoRow), ("NoName", C_NoName), ("NoLot", C_NoLot), ("NoPlace", C_NoPlace), ("NoBack", C_NoBack), ("Fails", C_Fails), ("NoMates", C_NoMates), ("TooMany", C_TooMany)] (.ref C_NoMates) [("NoNumber", false), ("NoDeed", false), ("NoBook", false), ("NoWeb", false), ("NoNames", false), ("NoAmount", false), ("NoMany", false), ("NoText", false), ("NoRow", false), ("NoName", false), ("NoLot", false), ("NoPlace", false), ("NoBack", false), ("Fails", false), ("NoMates", true), ("TooMany", false)] = true)
    (xr_TooMany : xrB K [("NoNumber", C_NoNumber), ("NoDeed", C_NoDeed), ("NoBook", C_NoBook), ("NoWeb", C_NoWeb), ("NoNames", C_NoNames), ("NoAmount", C_NoAmount), ("NoMany", C_NoMany), ("NoText", C_NoText), ("NoRow", C_NoRow), ("NoName", C_NoName), ("NoLot", C_NoLot), ("NoPlace", C_NoPlace), ("NoBack", C_NoBack), ("Fails", C_Fails), ("NoMates", C_NoMates), ("TooMany", C_TooMany)] (.ref C_TooMany) [("NoNumber", false), ("NoDeed", false), ("NoBook", false), ("NoWeb", false), ("NoNames", false), ("NoAmount", false), ("NoMany", false), ("NoText", false), ("NoRow", false), ("NoName", false), ("NoLot", false), ("NoPlace", false), ("NoBack", false), ("Fails", false), ("NoMates", false), ("TooMany", true)] = true)
    (xa : (decide (PySem.W.specialIn K (.builtin "object.__class__") "__get__" = some (some (.builtin "getset_descriptor.__get__"))) && decide (PySem.W.takesIn K (.builtin "object.__class__") = some true)) = true) :
    ∃ fd : FuncData, (∀ (s : Shared) (v : Value), BindsTo s fd ⟨[v], []⟩ [("_law_script", v)]) ∧ ∀ base : Heap, K.In base → base.Ns mainGlobals mg → FnG P w K mg base (L2.CX P w) false 7 fa fd ["_law_script"] (spLaw K 63) := by
  have e := hfa.symm.trans (PySem.W.mg_of X G a23)
  cases e
  have O : PgOk P w K mg pg tbl dis [f0, f1, f2, f3, f4, f5, f6, f7, f8, f9, f10, f11, f12, f13, f14, f15, f16, f17, f18, f19, f20, f21, f22, fa] [(PySem.W.fnOf "is_number" "is_number" (defArgs di0.st) (defBody di0.st) (defScope di0.st) .none kV0 dc0 pm0 an0 cd0 ct0),
      (PySem.W.fnOf "divisor_of" "divisor_of" (defArgs di1.st) (defBody di1.st) (defScope di1.st) .none kV1 dc1 pm1 an1 cd1 ct1),
      (PySem.W.fnOf "is_fraction" "is_fraction" (defArgs di2.st) (defBody di2.st) (defScope di2.st) .none kV2 dc2 pm2 an2 cd2 ct2),
      (PySem.W.fnOf "lowest" "lowest" (defArgs di3.st) (defBody di3.st) (defScope di3.st) .none kV3 dc3 pm3 an3 cd3 ct3),
      (PySem.W.fnOf "fraction" "fraction" (defArgs di4.st) (defBody di4.st) (defScope di4.st) (.ref dT4) kV4 dc4 pm4 an4 cd4 ct4),
      (PySem.W.fnOf "check_both" "check_both" (defArgs di5.st) (defBody di5.st) (defScope di5.st) .none kV5 dc5 pm5 an5 cd5 ct5),
      (PySem.W.fnOf "plus" "plus" (defArgs di6.st) (defBody di6.st) (defScope di6.st) .none kV6 dc6 pm6 an6 cd6 ct6),
      (PySem.W.fnOf "minus" "minus" (defArgs di7.st) (defBody di7.st) (defScope di7.st) .none kV7 dc7 pm7 an7 cd7 ct7),
      (PySem.W.fnOf "times" "times" (defArgs di8.st) (defBody di8.st) (defScope di8.st) .none kV8 dc8 pm8 an8 cd8 ct8),
      (PySem.W.fnOf "over" "over" (defArgs di9.st) (defBody di9.st) (defScope di9.st) .none kV9 dc9 pm9 an9 cd9 ct9),
      (PySem.W.fnOf "below" "below" (defArgs di10.st) (defBody di10.st) (defScope di10.st) .none kV10 dc10 pm10 an10 cd10 ct10),
      (PySem.W.fnOf "_law_cell" "_law_cell" (defArgs di11.st) (defBody di11.st) (defScope di11.st) .none kV11 dc11 pm11 an11 cd11 ct11),
      (PySem.W.fnOf "_law_pool" "_law_pool" (defArgs di12.st) (defBody di12.st) (defScope di12.st) .none kV12 dc12 pm12 an12 cd12 ct12),
      (PySem.W.fnOf "_law_take" "_law_take" (defArgs di13.st) (defBody di13.st) (defScope di13.st) .none kV13 dc13 pm13 an13 cd13 ct13),
      (PySem.W.fnOf "_law_low" "_law_low" (defArgs di14.st) (defBody di14.st) (defScope di14.st) .none kV14 dc14 pm14 an14 cd14 ct14),
      (PySem.W.fnOf "_law_sort" "_law_sort" (defArgs di15.st) (defBody di15.st) (defScope di15.st) .none kV15 dc15 pm15 an15 cd15 ct15),
      (PySem.W.fnOf "_law_number" "_law_number" (defArgs di16.st) (defBody di16.st) (defScope di16.st) .none kV16 dc16 pm16 an16 cd16 ct16),
      (PySem.W.fnOf "_law_one" "_law_one" (defArgs di17.st) (defBody di17.st) (defScope di17.st) .none kV17 dc17 pm17 an17 cd17 ct17),
      (PySem.W.fnOf "_law_odd_number" "_law_odd_number" (defArgs di18.st) (defBody di18.st) (defScope di18.st) .none kV18 dc18 pm18 an18 cd18 ct18),
      (PySem.W.fnOf "_law_odd_fraction" "_law_odd_fraction" (defArgs di19.st) (defBody di19.st) (defScope di19.st) .none kV19 dc19 pm19 an19 cd19 ct19),
      (PySem.W.fnOf "_law_asked" "_law_asked" (defArgs di20.st) (defBody di20.st) (defScope di20.st) .none kV20 dc20 pm20 an20 cd20 ct20),
      (PySem.W.fnOf "_law_is_fraction" "_law_is_fraction" (defArgs di21.st) (defBody di21.st) (defScope di21.st) .none kV21 dc21 pm21 an21 cd21 ct21),
      (PySem.W.fnOf "_law_doors_right" "_law_doors_right" (defArgs di22.st) (defBody di22.st) (defScope di22.st) .none kV22 dc22 pm22 an22 cd22 ct22),
      (PySem.W.fnOf "law" "law" (defArgs di23.st) (defBody di23.st) (defScope di23.st) .none kV23 dc23 pm23 an23 cd23 ct23)] := {
    gl := fun x d hx => by
      have hm := mem_of_lookup hx
      simp only [pg, List.mem_cons, List.not_mem_nil, or_false, Prod.mk.injEq] at hm
      rcases hm with ⟨rfl, rfl⟩
      · exact ⟨_, (.ref gag0_1), PySem.W.mg_of X G gc0, rfl, fun H => (rep_glob_tup glg0_7 (.cons (show RelV (.int (0)) _ from ⟨_, rfl⟩) (.cons (show RelV (.int (1)) _ from ⟨_, rfl⟩) .nil)) (by simp) (.cons (by simp only [RepD]) (.cons (by simp only [RepD]) .nil)))⟩
    bl := fun x hx => by
      simp only [pg, List.mem_cons, List.not_mem_nil, or_false] at hx
      rcases hx with rfl | rfl | rfl | rfl | rfl | rfl | rfl | rfl | rfl | rfl | rfl | rfl | rfl | rfl | rfl | rfl
      · exact PySem.W.mg_none_of X G z0
      · exact PySem.W.mg_none_of X G z1
      · exact PySem.W.mg_none_of X G z2
      · exact PySem.W.mg_none_of X G z3
      · exact PySem.W.mg_none_of X G z4
      · exact PySem.W.mg_none_of X G z5
      · exact PySem.W.mg_none_of X G z6
      · exact PySem.W.mg_none_of X G z7
      · exact PySem.W.mg_none_of X G z8
      · exact PySem.W.mg_none_of X G z9
      · exact PySem.W.mg_none_of X G z10
      · exact PySem.W.mg_none_of X G z11
      · exact PySem.W.mg_none_of X G z12
      · exact PySem.W.mg_none_of X G z13
      · exact PySem.W.mg_none_of X G z14
      · exact PySem.W.mg_none_of X G z15
    tb := fun x t hx => by
      have hm := mem_of_lookup hx
      simp only [pg, List.mem_cons, List.not_mem_nil, or_false, Prod.mk.injEq] at hm
    ask := fun _ => ask_of xa
    xcs := fun q hq => by
      simp only [pg, List.mem_cons, List.not_mem_nil, or_false] at hq
      rcases hq with rfl | rfl | rfl | rfl | rfl | rfl | rfl | rfl | rfl | rfl | rfl | rfl | rfl | rfl
      · exact xc_of baseV (by decide) (PySem.W.mg_of X G xn_NoNumber) xn_NoNumber xl_NoNumber xo_NoNumber (baseN_of (PySem.W.mg_of X G xn_ThankError) (by decide) rb_ThankError) xi_NoNumber xt_NoNumber xf_NoNumber xd_NoNumber cs_NoNumber cg_NoNumber cb_NoNumber (fun s us _ hl => match us, hl with | [u0, u1], _ => .of_eq rfl)
      · exact xc_of baseV (by decide) (PySem.W.mg_of X G xn_NoDeed) xn_NoDeed xl_NoDeed xo_NoDeed (baseN_of (PySem.W.mg_of X G xn_ThankError) (by decide) rb_ThankError) xi_NoDeed xt_NoDeed xf_NoDeed xd_NoDeed cs_NoDeed cg_NoDeed cb_NoDeed (fun s us _ hl => match us, hl with | [u0, u1], _ => .of_eq rfl)
      · exact xc_of baseV (by decide) (PySem.W.mg_of X G xn_NoBook) xn_NoBook xl_NoBook xo_NoBook (baseN_of (PySem.W.mg_of X G xn_ThankError) (by decide) rb_ThankError) xi_NoBook xt_NoBook xf_NoBook xd_NoBook cs_NoBook cg_NoBook cb_NoBook (fun s us _ hl => match us, hl with | [u0, u1], _ => .of_eq rfl)
      · exact xc_of baseV (by decide) (PySem.W.mg_of X G xn_NoWeb) xn_NoWeb xl_NoWeb xo_NoWeb (baseN_of (PySem.W.mg_of X G xn_ThankError) (by decide) rb_ThankError) xi_NoWeb xt_NoWeb xf_NoWeb xd_NoWeb cs_NoWeb cg_NoWeb cb_NoWeb (fun s us _ hl => match us, hl with | [u0, u1], _ => .of_eq rfl)
      · exact xc_of baseV (by decide) (PySem.W.mg_of X G xn_NoNames) xn_NoNames xl_NoNames xo_NoNames (baseN_of (PySem.W.mg_of X G xn_ThankError) (by decide) rb_ThankError) xi_NoNames xt_NoNames xf_NoNames xd_NoNames cs_NoNames cg_NoNames cb_NoNames (fun s us _ hl => match us, hl with | [u0, u1], _ => .of_eq rfl)
      · exact xc_of baseV (by decide) (PySem.W.mg_of X G xn_NoAmount) xn_NoAmount xl_NoAmount xo_NoAmount (baseN_of (PySem.W.mg_of X G xn_ThankError) (by decide) rb_ThankError) xi_NoAmount xt_NoAmount xf_NoAmount xd_NoAmount cs_NoAmount cg_NoAmount cb_NoAmount (fun s us _ hl => match us, hl with | [u0, u1], _ => .of_eq rfl)
      · exact xc_of baseV (by decide) (PySem.W.mg_of X G xn_NoMany) xn_NoMany xl_NoMany xo_NoMany (baseN_of (PySem.W.mg_of X G xn_ThankError) (by decide) rb_ThankError) xi_NoMany xt_NoMany xf_NoMany xd_NoMany cs_NoMany cg_NoMany cb_NoMany (fun s us _ hl => match us, hl with | [u0, u1], _ => .of_eq rfl)
      · exact xc_of baseV (by decide) (PySem.W.mg_of X G xn_NoText) xn_NoText xl_NoText xo_NoText (baseN_of (PySem.W.mg_of X G xn_ThankError) (by decide) rb_ThankError) xi_NoText xt_NoText xf_NoText xd_NoText cs_NoText cg_NoText cb_NoText (fun s us _ hl => match us, hl with | [u0, u1], _ => .of_eq rfl)
      · exact xc_of baseV (by decide) (PySem.W.mg_of X G xn_NoRow) xn_NoRow xl_NoRow xo_NoRow (baseN_of (PySem.W.mg_of X G xn_ThankError) (by decide) rb_ThankError) xi_NoRow xt_NoRow xf_NoRow xd_NoRow cs_NoRow cg_NoRow cb_NoRow (fun s us _ hl => match us, hl with | [u0, u1], _ => .of_eq rfl)
      · exact xc_of baseL (by decide) (PySem.W.mg_of X G xn_NoName) xn_NoName xl_NoName xo_NoName (baseN_of (PySem.W.mg_of X G xn_LostError) (by decide) rb_LostError) xi_NoName xt_NoName xf_NoName xd_NoName cs_NoName cg_NoName cb_NoName (fun s us _ hl => match us, hl with | [u0, u1], _ => .of_eq rfl)
      · exact xc_of baseL (by decide) (PySem.W.mg_of X G xn_NoLot) xn_NoLot xl_NoLot xo_NoLot (baseN_of (PySem.W.mg_of X G xn_LostError) (by decide) rb_LostError) xi_NoLot xt_NoLot xf_NoLot xd_NoLot cs_NoLot cg_NoLot cb_NoLot (fun s us _ hl => match us, hl with | [u0, u1], _ => .of_eq rfl)
      · exact xc_of baseL (by decide) (PySem.W.mg_of X G xn_NoPlace) xn_NoPlace xl_NoPlace xo_NoPlace (baseN_of (PySem.W.mg_of X G xn_LostError) (by decide) rb_LostError) xi_NoPlace xt_NoPlace xf_NoPlace xd_NoPlace cs_NoPlace cg_NoPlace cb_NoPlace (fun s us _ hl => match us, hl with | [u0, u1], _ => .of_eq rfl)
      · exact xc_of baseA (by decide) (PySem.W.mg_of X G xn_Fails) xn_Fails xl_Fails xo_Fails (baseN_of (PySem.W.mg_of X G xn_StandError) (by decide) rb_StandError) xi_Fails xt_Fails xf_Fails xd_Fails cs_Fails cg_Fails cb_Fails (fun s us _ hl => match us, hl with | [u0, u1, u2], _ => .of_eq rfl)
      · exact xc_of baseA (by decide) (PySem.W.mg_of X G xn_TooMany) xn_TooMany xl_TooMany xo_TooMany (baseN_of (PySem.W.mg_of X G xn_StandError) (by decide) rb_StandError) xi_TooMany xt_TooMany xf_TooMany xd_TooMany cs_TooMany cg_TooMany cb_TooMany (fun s us _ hl => match us, hl with | [u0, u1], _ => .of_eq rfl)
    xr := fun h ms hh => by
      have hm := mem_of_lookup hh
      simp only [pg, List.mem_cons, List.not_mem_nil, or_false, Prod.mk.injEq] at hm
      have nsA : ∀ p ∈ ([("NoNumber", C_NoNumber), ("NoDeed", C_NoDeed), ("NoBook", C_NoBook), ("NoWeb", C_NoWeb), ("NoNames", C_NoNames), ("NoAmount", C_NoAmount), ("NoMany", C_NoMany), ("NoText", C_NoText), ("NoRow", C_NoRow), ("NoName", C_NoName), ("NoLot", C_NoLot), ("NoPlace", C_NoPlace), ("NoBack", C_NoBack), ("Fails", C_Fails), ("NoMates", C_NoMates), ("TooMany", C_TooMany)] : List (Str × Addr)), PySem.W.nsIn K mainGlobals p.1 = some (some (.ref p.2)) := by
        intro p hp
        simp only [List.mem_cons, List.not_mem_nil, or_false] at hp
        rcases hp with rfl | rfl | rfl | rfl | rfl | rfl | rfl | rfl | rfl | rfl | rfl | rfl | rfl | rfl | rfl | rfl
        · exact xn_NoNumber
        · exact xn_NoDeed
        · exact xn_NoBook
        · exact xn_NoWeb
        · exact xn_NoNames
        · exact xn_NoAmount
        · exact xn_NoMany
        · exact xn_NoText
        · exact xn_NoRow
        · exact xn_NoName
        · exact xn_NoLot
        · exact xn_NoPlace
        · exact xn_NoBack
        · exact xn_Fails
        · exact xn_NoMates
        · exact xn_TooMany
      rcases hm with ⟨rfl, rfl⟩ | ⟨rfl, rfl⟩ | ⟨rfl, rfl⟩ | ⟨rfl, rfl⟩ | ⟨rfl, rfl⟩ | ⟨rfl, rfl⟩ | ⟨rfl, rfl⟩ | ⟨rfl, rfl⟩ | ⟨rfl, rfl⟩ | ⟨rfl, rfl⟩ | ⟨rfl, rfl⟩ | ⟨rfl, rfl⟩ | ⟨rfl, rfl⟩ | ⟨rfl, rfl⟩ | ⟨rfl, rfl⟩ | ⟨rfl, rfl⟩ | ⟨rfl, rfl⟩ | ⟨rfl, rfl⟩ | ⟨rfl, rfl⟩ | ⟨rfl, rfl⟩ | ⟨rfl, rfl⟩ | ⟨rfl, rfl⟩
      · exact xr_of (hw := .ref C_NoNumber) nsA (by decide) (.inl (PySem.W.mg_of X G xn_NoNumber)) rfl (fun u r => r) xr_NoNumber
      · exact xr_of (hw := .ref C_NoDeed) nsA (by decide) (.inl (PySem.W.mg_of X G xn_NoDeed)) rfl (fun u r => r) xr_NoDeed
      · exact xr_of (hw := .ref C_NoBook) nsA (by decide) (.inl (PySem.W.mg_of X G xn_NoBook)) rfl (fun u r => r) xr_NoBook
      · exact xr_of (hw := .ref C_ThankError) nsA (by decide) (.inl (PySem.W.mg_of X G xn_ThankError)) rfl (fun u r => r) xr_ThankError
      · exact xr_of (hw := .ref C_LostError) nsA (by decide) (.inl (PySem.W.mg_of X G xn_LostError)) rfl (fun u r => r) xr_LostError
      · exact xr_of (hw := .ref C_StandError) nsA (by decide) (.inl (PySem.W.mg_of X G xn_StandError)) rfl (fun u r => r) xr_StandError
      · exact xr_of (hw := .ty "ValueError") nsA (by decide) (.inr ⟨PySem.W.mg_none_of X G z2, by decide +kernel, by decide⟩) rfl (fun u r => r) xr_ValueError
      · exact xr_of (hw := .ty "LookupError") nsA (by decide) (.inr ⟨PySem.W.mg_none_of X G z1, by decide +kernel, by decide⟩) rfl (fun u r => r) xr_LookupError
      · exact xr_of (hw := .ty "ArithmeticError") nsA (by decide) (.inr ⟨PySem.W.mg_none_of X G z0, by decide +kernel, by decide⟩) rfl (fun u r => r) xr_ArithmeticError
      · exact xr_of (hw := .ref C_NoWeb) nsA (by decide) (.inl (PySem.W.mg_of X G xn_NoWeb)) rfl (fun u r => r) xr_NoWeb
      · exact xr_of (hw := .ref C_NoNames) nsA (by decide) (.inl (PySem.W.mg_of X G xn_NoNames)) rfl (fun u r => r) xr_NoNames
      · exact xr_of (hw := .ref C_NoAmount) nsA (by decide) (.inl (PySem.W.mg_of X G xn_NoAmount)) rfl (fun u r => r) xr_NoAmount
      · exact xr_of (hw := .ref C_NoMany) nsA (by decide) (.inl (PySem.W.mg_of X G xn_NoMany)) rfl (fun u r => r) xr_NoMany
      · exact xr_of (hw := .ref C_NoText) nsA (by decide) (.inl (PySem.W.mg_of X G xn_NoText)) rfl (fun u r => r) xr_NoText
      · exact xr_of (hw := .ref C_NoRow) nsA (by decide) (.inl (PySem.W.mg_of X G xn_NoRow)) rfl (fun u r => r) xr_NoRow
      · exact xr_of (hw := .ref C_NoName) nsA (by decide) (.inl (PySem.W.mg_of X G xn_NoName)) rfl (fun u r => r) xr_NoName
      · exact xr_of (hw := .ref C_NoLot) nsA (by decide) (.inl (PySem.W.mg_of X G xn_NoLot)) rfl (fun u r => r) xr_NoLot
      · exact xr_of (hw := .ref C_NoPlace) nsA (by decide) (.inl (PySem.W.mg_of X G xn_NoPlace)) rfl (fun u r => r) xr_NoPlace
      · exact xr_of (hw := .ref C_NoBack) nsA (by decide) (.inl (PySem.W.mg_of X G xn_NoBack)) rfl (fun u r => r) xr_NoBack
      · exact xr_of (hw := .ref C_Fails) nsA (by decide) (.inl (PySem.W.mg_of X G xn_Fails)) rfl (fun u r => r) xr_Fails
      · exact xr_of (hw := .ref C_NoMates) nsA (by decide) (.inl (PySem.W.mg_of X G xn_NoMates)) rfl (fun u r => r) xr_NoMates
      · exact xr_of (hw := .ref C_TooMany) nsA (by decide) (.inl (PySem.W.mg_of X G xn_TooMany)) rfl (fun u r => r) xr_TooMany
    d := fun i d hd => by
      match i, hd with
      | 0, hd => cases hd; exact ⟨_, _, rfl, rfl, ⟨⟨_, _, _, _, _, _, _, _, _, _, rfl, l0, c0⟩⟩, dcl0⟩
      | 1, hd => cases hd; exact ⟨_, _, rfl, rfl, ⟨⟨_, _, _, _, _, _, _, _, _, _, rfl, l1, c1⟩⟩, dcl1⟩
      | 2, hd => cases hd; exact ⟨_, _, rfl, rfl, ⟨⟨_, _, _, _, _, _, _, _, _, _, rfl, l2, c2⟩⟩, dcl2⟩
      | 3, hd => cases hd; exact ⟨_, _, rfl, rfl, ⟨⟨_, _, _, _, _, _, _, _, _, _, rfl, l3, c3⟩⟩, dcl3⟩
      | 4, hd => cases hd; exact ⟨_, _, rfl, rfl, ⟨⟨_, _, _, _, _, _, _, _, _, _, rfl, l4, c4⟩⟩, dcl4⟩
      | 5, hd => cases hd; exact ⟨_, _, rfl, rfl, ⟨⟨_, _, _, _, _, _, _, _, _, _, rfl, l5, c5⟩⟩, dcl5⟩
      | 6, hd => cases hd; exact ⟨_, _, rfl, rfl, ⟨⟨_, _, _, _, _, _, _, _, _, _, rfl, l6, c6⟩⟩, dcl6⟩
      | 7, hd => cases hd; exact ⟨_, _, rfl, rfl, ⟨⟨_, _, _, _, _, _, _, _, _, _, rfl, l7, c7⟩⟩, dcl7⟩
      | 8, hd => cases hd; exact ⟨_, _, rfl, rfl, ⟨⟨_, _, _, _, _, _, _, _, _, _, rfl, l8, c8⟩⟩, dcl8⟩
      | 9, hd => cases hd; exact ⟨_, _, rfl, rfl, ⟨⟨_, _, _, _, _, _, _, _, _, _, rfl, l9, c9⟩⟩, dcl9⟩
      | 10, hd => cases hd; exact ⟨_, _, rfl, rfl, ⟨⟨_, _, _, _, _, _, _, _, _, _, rfl, l10, c10⟩⟩, dcl10⟩
      | 11, hd => cases hd; exact ⟨_, _, rfl, rfl, ⟨⟨_, _, _, _, _, _, _, _, _, _, rfl, l11, c11⟩⟩, dcl11⟩
      | 12, hd => cases hd; exact ⟨_, _, rfl, rfl, ⟨⟨_, _, _, _, _, _, _, _, _, _, rfl, l12, c12⟩⟩, dcl12⟩
      | 13, hd => cases hd; exact ⟨_, _, rfl, rfl, ⟨⟨_, _, _, _, _, _, _, _, _, _, rfl, l13, c13⟩⟩, dcl13⟩
      | 14, hd => cases hd; exact ⟨_, _, rfl, rfl, ⟨⟨_, _, _, _, _, _, _, _, _, _, rfl, l14, c14⟩⟩, dcl14⟩
      | 15, hd => cases hd; exact ⟨_, _, rfl, rfl, ⟨⟨_, _, _, _, _, _, _, _, _, _, rfl, l15, c15⟩⟩, dcl15⟩
      | 16, hd => cases hd; exact ⟨_, _, rfl, rfl, ⟨⟨_, _, _, _, _, _, _, _, _, _, rfl, l16, c16⟩⟩, dcl16⟩
      | 17, hd => cases hd; exact ⟨_, _, rfl, rfl, ⟨⟨_, _, _, _, _, _, _, _, _, _, rfl, l17, c17⟩⟩, dcl17⟩
      | 18, hd => cases hd; exact ⟨_, _, rfl, rfl, ⟨⟨_, _, _, _, _, _, _, _, _, _, rfl, l18, c18⟩⟩, dcl18⟩
      | 19, hd => cases hd; exact ⟨_, _, rfl, rfl, ⟨⟨_, _, _, _, _, _, _, _, _, _, rfl, l19, c19⟩⟩, dcl19⟩
      | 20, hd => cases hd; exact ⟨_, _, rfl, rfl, ⟨⟨_, _, _, _, _, _, _, _, _, _, rfl, l20, c20⟩⟩, dcl20⟩
      | 21, hd => cases hd; exact ⟨_, _, rfl, rfl, ⟨⟨_, _, _, _, _, _, _, _, _, _, rfl, l21, c21⟩⟩, dcl21⟩
      | 22, hd => cases hd; exact ⟨_, _, rfl, rfl, ⟨⟨_, _, _, _, _, _, _, _, _, _, rfl, l22, c22⟩⟩, dcl22⟩
      | 23, hd => cases hd; exact ⟨_, _, rfl, rfl, ⟨⟨_, _, _, _, _, _, _, _, _, _, rfl, l23, c23⟩⟩, dcl23⟩
      | i + 24, hd => simp [dis] at hd
    pats := fun q hq => by
      simp only [pg, List.mem_cons, List.not_mem_nil, or_false] at hq
      rcases hq with rfl | rfl | rfl | rfl | rfl | rfl | rfl | rfl | rfl | rfl | rfl | rfl | rfl | rfl | rfl | rfl | rfl | rfl | rfl | rfl | rfl | rfl | rfl | rfl | rfl | rfl | rfl | rfl | rfl | rfl
      · exact ⟨1, di1, _, _, rfl, rfl, rfl, rfl, rfl, PySem.W.mg_of X G a1, k1, rfl, fun s us ws hKs hu hw => match us, hu, ws, hw with | [u0, u1], _, [], _ => ⟨[u0, u1], .of_eq rfl, (.pos rfl (.pos rfl .nil))⟩⟩
      · exact ⟨0, di0, _, _, rfl, rfl, rfl, rfl, rfl, PySem.W.mg_of X G a0, k0, rfl, fun s us ws hKs hu hw => match us, hu, ws, hw with | [u0], _, [], _ => ⟨[u0], .of_eq rfl, (.pos rfl .nil)⟩⟩
      · exact ⟨3, di3, _, _, rfl, rfl, rfl, rfl, rfl, PySem.W.mg_of X G a3, k3, rfl, fun s us ws hKs hu hw => match us, hu, ws, hw with | [u0, u1], _, [], _ => ⟨[u0, u1], .of_eq rfl, (.pos rfl (.pos rfl .nil))⟩⟩
      · exact ⟨2, di2, _, _, rfl, rfl, rfl, rfl, rfl, PySem.W.mg_of X G a2, k2, rfl, fun s us ws hKs hu hw => match us, hu, ws, hw with | [u0], _, [], _ => ⟨[u0], .of_eq rfl, (.pos rfl .nil)⟩⟩
      · exact ⟨5, di5, _, _, rfl, rfl, rfl, rfl, rfl, PySem.W.mg_of X G a5, k5, rfl, fun s us ws hKs hu hw => match us, hu, ws, hw with | [u0, u1], _, [], _ => ⟨[u0, u1], .of_eq rfl, (.pos rfl (.pos rfl .nil))⟩⟩
      · exact ⟨13, di13, _, _, rfl, rfl, rfl, rfl, rfl, PySem.W.mg_of X G a13, k13, rfl, fun s us ws hKs hu hw => match us, hu, ws, hw with | [u0, u1], _, [], _ => ⟨[u0, u1], .of_eq rfl, (.pos rfl (.pos rfl .nil))⟩⟩
      · exact ⟨14, di14, _, _, rfl, rfl, rfl, rfl, rfl, PySem.W.mg_of X G a14, k14, rfl, fun s us ws hKs hu hw => match us, hu, ws, hw with | [u0, u1], _, [], _ => ⟨[u0, u1], .of_eq rfl, (.pos rfl (.pos rfl .nil))⟩⟩
      · exact ⟨16, di16, _, _, rfl, rfl, rfl, rfl, rfl, PySem.W.mg_of X G a16, k16, rfl, fun s us ws hKs hu hw => match us, hu, ws, hw with | [u0], _, [], _ => ⟨[u0], .of_eq rfl, (.pos rfl .nil)⟩⟩
      · exact ⟨10, di10, _, _, rfl, rfl, rfl, rfl, rfl, PySem.W.mg_of X G a10, k10, rfl, fun s us ws hKs hu hw => match us, hu, ws, hw with | [u0, u1], _, [], _ => ⟨[u0, u1], .of_eq rfl, (.pos rfl (.pos rfl .nil))⟩⟩
      · exact ⟨10, di10, _, _, rfl, rfl, rfl, rfl, rfl, PySem.W.mg_of X G a10, k10, rfl, fun s us ws hKs hu hw => match us, hu, ws, hw with | [], _, [w0, w1], _ => ⟨[w1, w0], .of_eq rfl, (.pos rfl (.pos rfl .nil))⟩⟩
      · exact ⟨15, di15, _, _, rfl, rfl, rfl, rfl, rfl, PySem.W.mg_of X G a15, k15, rfl, fun s us ws hKs hu hw => match us, hu, ws, hw with | [u0], _, [], _ => ⟨[u0], .of_eq rfl, (.pos rfl .nil)⟩⟩
      · exact ⟨4, di4, _, _, rfl, rfl, rfl, rfl, rfl, PySem.W.mg_of X G a4, k4, rfl, fun s us ws hKs hu hw => match us, hu, ws, hw with | [u0, u1], _, [], _ => ⟨[u0, u1], (by first | exact .of_eq rfl | exact PySem.W.binds_K hKs rfl d4 rfl rfl rfl), (.pos rfl (.pos rfl .nil))⟩⟩
      · exact ⟨4, di4, _, _, rfl, rfl, rfl, rfl, rfl, PySem.W.mg_of X G a4, k4, rfl, fun s us ws hKs hu hw => match us, hu, ws, hw with | [], _, [w0, w1], _ => ⟨[w1, w0], (by first | exact .of_eq rfl | exact PySem.W.binds_K hKs rfl d4 rfl rfl rfl), (.pos rfl (.pos rfl .nil))⟩⟩
      · exact ⟨6, di6, _, _, rfl, rfl, rfl, rfl, rfl, PySem.W.mg_of X G a6, k6, rfl, fun s us ws hKs hu hw => match us, hu, ws, hw with | [u0, u1], _, [], _ => ⟨[u0, u1], .of_eq rfl, (.pos rfl (.pos rfl .nil))⟩⟩
      · exact ⟨6, di6, _, _, rfl, rfl, rfl, rfl, rfl, PySem.W.mg_of X G a6, k6, rfl, fun s us ws hKs hu hw => match us, hu, ws, hw with | [], _, [w0, w1], _ => ⟨[w1, w0], .of_eq rfl, (.pos rfl (.pos rfl .nil))⟩⟩
      · exact ⟨7, di7, _, _, rfl, rfl, rfl, rfl, rfl, PySem.W.mg_of X G a7, k7, rfl, fun s us ws hKs hu hw => match us, hu, ws, hw with | [u0, u1], _, [], _ => ⟨[u0, u1], .of_eq rfl, (.pos rfl (.pos rfl .nil))⟩⟩
      · exact ⟨7, di7, _, _, rfl, rfl, rfl, rfl, rfl, PySem.W.mg_of X G a7, k7, rfl, fun s us ws hKs hu hw => match us, hu, ws, hw with | [], _, [w0, w1], _ => ⟨[w1, w0], .of_eq rfl, (.pos rfl (.pos rfl .nil))⟩⟩
      · exact ⟨8, di8, _, _, rfl, rfl, rfl, rfl, rfl, PySem.W.mg_of X G a8, k8, rfl, fun s us ws hKs hu hw => match us, hu, ws, hw with | [u0, u1], _, [], _ => ⟨[u0, u1], .of_eq rfl, (.pos rfl (.pos rfl .nil))⟩⟩
      · exact ⟨8, di8, _, _, rfl, rfl, rfl, rfl, rfl, PySem.W.mg_of X G a8, k8, rfl, fun s us ws hKs hu hw => match us, hu, ws, hw with | [], _, [w0, w1], _ => ⟨[w1, w0], .of_eq rfl, (.pos rfl (.pos rfl .nil))⟩⟩
      · exact ⟨9, di9, _, _, rfl, rfl, rfl, rfl, rfl, PySem.W.mg_of X G a9, k9, rfl, fun s us ws hKs hu hw => match us, hu, ws, hw with | [u0, u1], _, [], _ => ⟨[u0, u1], .of_eq rfl, (.pos rfl (.pos rfl .nil))⟩⟩
      · exact ⟨9, di9, _, _, rfl, rfl, rfl, rfl, rfl, PySem.W.mg_of X G a9, k9, rfl, fun s us ws hKs hu hw => match us, hu, ws, hw with | [], _, [w0, w1], _ => ⟨[w1, w0], .of_eq rfl, (.pos rfl (.pos rfl .nil))⟩⟩
      · exact ⟨17, di17, _, _, rfl, rfl, rfl, rfl, rfl, PySem.W.mg_of X G a17, k17, rfl, fun s us ws hKs hu hw => match us, hu, ws, hw with | [u0], _, [], _ => ⟨[u0], .of_eq rfl, (.pos rfl .nil)⟩⟩
      · exact ⟨19, di19, _, _, rfl, rfl, rfl, rfl, rfl, PySem.W.mg_of X G a19, k19, rfl, fun s us ws hKs hu hw => match us, hu, ws, hw with | [u0], _, [], _ => ⟨[u0], .of_eq rfl, (.pos rfl .nil)⟩⟩
      · exact ⟨18, di18, _, _, rfl, rfl, rfl, rfl, rfl, PySem.W.mg_of X G a18, k18, rfl, fun s us ws hKs hu hw => match us, hu, ws, hw with | [u0], _, [], _ => ⟨[u0], .of_eq rfl, (.pos rfl .nil)⟩⟩
      · exact ⟨20, di20, _, _, rfl, rfl, rfl, rfl, rfl, PySem.W.mg_of X G a20, k20, rfl, fun s us ws hKs hu hw => match us, hu, ws, hw with | [u0, u1, u2], _, [], _ => ⟨[u0, u1, u2], .of_eq rfl, (.pos rfl (.pos rfl (.pos rfl .nil)))⟩⟩
      · exact ⟨2, di2, _, _, rfl, rfl, rfl, rfl, rfl, PySem.W.mg_of X G a2, k2, rfl, fun s us ws hKs hu hw => match us, hu, ws, hw with | [], _, [w0], _ => ⟨[w0], .of_eq rfl, (.pos rfl .nil)⟩⟩
      · exact ⟨21, di21, _, _, rfl, rfl, rfl, rfl, rfl, PySem.W.mg_of X G a21, k21, rfl, fun s us ws hKs hu hw => match us, hu, ws, hw with | [u0], _, [], _ => ⟨[u0], .of_eq rfl, (.pos rfl .nil)⟩⟩
      · exact ⟨12, di12, _, _, rfl, rfl, rfl, rfl, rfl, PySem.W.mg_of X G a12, k12, rfl, fun s us ws hKs hu hw => match us, hu, ws, hw with | [u0], _, [], _ => ⟨[u0], .of_eq rfl, (.pos rfl .nil)⟩⟩
      · exact ⟨11, di11, _, _, rfl, rfl, rfl, rfl, rfl, PySem.W.mg_of X G a11, k11, rfl, fun s us ws hKs hu hw => match us, hu, ws, hw with | [u0, u1], _, [], _ => ⟨[u0, u1], .of_eq rfl, (.pos rfl (.pos rfl .nil))⟩⟩
      · exact ⟨22, di22, _, _, rfl, rfl, rfl, rfl, rfl, PySem.W.mg_of X G a22, k22, rfl, fun s us ws hKs hu hw => match us, hu, ws, hw with | [u0], _, [], _ => ⟨[u0], .of_eq rfl, (.pos rfl .nil)⟩⟩
  }
  exact ⟨(PySem.W.fnOf "law" "law" (defArgs di23.st) (defBody di23.st) (defScope di23.st) .none kV23 dc23 pm23 an23 cd23 ct23), fun s v => .of_eq rfl, fun base _ _ => (prog_ok O 7 23 di23 _ _ rfl rfl rfl).imp (law_sp (by decide) law_true)⟩
end TW
open PySem PySem.W PyProof.Rows
set_option maxHeartbeats 0 in
theorem PySem.Challenge.cw_thankways_k02_numbers_refused_holds : PySem.Challenge.rw_thankways_k02_numbers_refused.Holds := by
  w_on; o_law; k_head; (case hw => w_witness2)
  k_fill
  refine TW.walk_G (l := PySem.Challenge.rw_thankways_k02_numbers_refused) (n := 63) (k := 7) (x := "_law_script") (CX := fun w => L2.CX PySem.Challenge.pw_thankways_k02_numbers_refused w) (sp := fun w => TW.spLaw _ 63) rfl (by decide) rfl ⟨rfl, by decide, by decide⟩ (fun w h Y => PySem.W.kIn_of Y) ?F (fun _ _ a ns hl hS => ⟨a, ns, rfl, hS, hl, fun _ => rfl⟩) (fun w H s e s' h => TW.cx_false h)
  case F =>
    intro w mg fa h KX G hmg
    refine' TW.all_mk KX G hmg ?a0 ?l0 ?c0 ?k0 ?a1 ?l1 ?c1 ?k1 ?a2 ?l2 ?c2 ?k2 ?a3 ?l3 ?c3 ?k3 ?d4 ?a4 ?l4 ?c4 ?k4 ?a5 ?l5 ?c5 ?k5 ?a6 ?l6 ?c6 ?k6 ?a7 ?l7 ?c7 ?k7 ?a8 ?l8 ?c8 ?k8 ?a9 ?l9 ?c9 ?k9 ?a10 ?l10 ?c10 ?k10 ?a11 ?l11 ?c11 ?k11 ?a12 ?l12 ?c12 ?k12 ?a13 ?l13 ?c13 ?k13 ?a14 ?l14 ?c14 ?k14 ?a15 ?l15 ?c15 ?k15 ?a16 ?l16 ?c16 ?k16 ?a17 ?l17 ?c17 ?k17 ?a18 ?l18 ?c18 ?k18 ?a19 ?l19 ?c19 ?k19 ?a20 ?l20 ?c20 ?k20 ?a21 ?l21 ?c21 ?k21 ?a22 ?l22 ?c22 ?k22 ?a23 ?l23 ?c23 ?k23 ?z0 ?z1 ?z2 ?z3 ?z4 ?z5 ?z6 ?z7 ?z8 ?z9 ?z10 ?z11 ?z12 ?z13 ?z14 ?z15 ?glg0_7 ?gc0 ?xn_ThankError ?xn_LostError ?xn_StandError ?xn_NoNumber ?xn_NoDeed ?xn_NoBook ?xn_NoWeb ?xn_NoNames ?xn_NoAmount ?xn_NoMany ?xn_NoText ?xn_NoRow ?xn_NoName ?xn_NoLot ?xn_NoPlace ?xn_NoBack ?xn_Fails ?xn_NoMates ?xn_TooMany ?rb_LostError ?rb_StandError ?rb_ThankError ?xl_NoNumber ?xo_NoNumber ?xi_NoNumber ?xt_NoNumber ?xf_NoNumber ?xd_NoNumber ?xl_NoDeed ?xo_NoDeed ?xi_NoDeed ?xt_NoDeed ?xf_NoDeed ?xd_NoDeed ?xl_NoBook ?xo_NoBook ?xi_NoBook ?xt_NoBook ?xf_NoBook ?xd_NoBook ?xl_NoWeb ?xo_NoWeb ?xi_NoWeb ?xt_NoWeb ?xf_NoWeb ?xd_NoWeb ?xl_NoNames ?xo_NoNames ?xi_NoNames ?xt_NoNames ?xf_NoNames ?xd_NoNames ?xl_NoAmount ?xo_NoAmount ?xi_NoAmount ?xt_NoAmount ?xf_NoAmount ?xd_NoAmount ?xl_NoMany ?xo_NoMany ?xi_NoMany ?xt_NoMany ?xf_NoMany ?xd_NoMany ?xl_NoText ?xo_NoText ?xi_NoText ?xt_NoText ?xf_NoText ?xd_NoText ?xl_NoRow ?xo_NoRow ?xi_NoRow ?xt_NoRow ?xf_NoRow ?xd_NoRow ?xl_NoName ?xo_NoName ?xi_NoName ?xt_NoName ?xf_NoName ?xd_NoName ?xl_NoLot ?xo_NoLot ?xi_NoLot ?xt_NoLot ?xf_NoLot ?xd_NoLot ?xl_NoPlace ?xo_NoPlace ?xi_NoPlace ?xt_NoPlace ?xf_NoPlace ?xd_NoPlace ?xl_Fails ?xo_Fails ?xi_Fails ?xt_Fails ?xf_Fails ?xd_Fails ?xl_TooMany ?xo_TooMany ?xi_TooMany ?xt_TooMany ?xf_TooMany ?xd_TooMany ?xr_NoNumber ?xr_NoDeed ?xr_NoBook ?xr_ThankError ?xr_LostError ?xr_StandError ?xr_ValueError ?xr_LookupError ?xr_ArithmeticError ?xr_NoWeb ?xr_NoNames ?xr_NoAmount ?xr_NoMany ?xr_NoText ?xr_NoRow ?xr_NoName ?xr_NoLot ?xr_NoPlace ?xr_NoBack ?xr_Fails ?xr_NoMates ?xr_TooMany ?xa
    (case a0 => k_is); (case l0 => k_is); (case c0 => k_is); (case k0 => k_is); (case a1 => k_is); (case l1 => k_is); (case c1 => k_is); (case k1 => k_is); (case a2 => k_is); (case l2 => k_is); (case c2 => k_is); (case k2 => k_is); (case a3 => k_is); (case l3 => k_is); (case c3 => k_is); (case k3 => k_is); (case a4 => k_is); (case l4 => k_is); (case c4 => k_is); (case k4 => k_is); (case d4 => k_is); (case a5 => k_is); (case l5 => k_is); (case c5 => k_is); (case k5 => k_is); (case a6 => k_is); (case l6 => k_is); (case c6 => k_is); (case k6 => k_is); (case a7 => k_is); (case l7 => k_is); (case c7 => k_is); (case k7 => k_is); (case a8 => k_is); (case l8 => k_is); (case c8 => k_is); (case k8 => k_is); (case a9 => k_is); (case l9 => k_is); (case c9 => k_is); (case k9 => k_is); (case a10 => k_is); (case l10 => k_is); (case c10 => k_is); (case k10 => k_is); (case a11 => k_is); (case l11 => k_is); (case c11 => k_is); (case k11 => k_is); (case a12 => k_is); (case l12 => k_is); (case c12 => k_is); (case k12 => k_is); (case a13 => k_is); (case l13 => k_is); (case c13 => k_is); (case k13 => k_is); (case a14 => k_is); (case l14 => k_is); (case c14 => k_is); (case k14 => k_is); (case a15 => k_is); (case l15 => k_is); (case c15 => k_is); (case k15 => k_is); (case a16 => k_is); (case l16 => k_is); (case c16 => k_is); (case k16 => k_is); (case a17 => k_is); (case l17 => k_is); (case c17 => k_is); (case k17 => k_is); (case a18 => k_is); (case l18 => k_is); (case c18 => k_is); (case k18 => k_is); (case a19 => k_is); (case l19 => k_is); (case c19 => k_is); (case k19 => k_is); (case a20 => k_is); (case l20 => k_is); (case c20 => k_is); (case k20 => k_is); (case a21 => k_is); (case l21 => k_is); (case c21 => k_is); (case k21 => k_is); (case a22 => k_is); (case l22 => k_is); (case c22 => k_is); (case k22 => k_is); (case a23 => k_is); (case l23 => k_is); (case c23 => k_is); (case k23 => k_is); (case z0 => k_is); (case z1 => k_is); (case z2 => k_is); (case z3 => k_is); (case z4 => k_is); (case z5 => k_is); (case z6 => k_is); (case z7 => k_is); (case z8 => k_is); (case z9 => k_is); (case z10 => k_is); (case z11 => k_is); (case z12 => k_is); (case z13 => k_is); (case z14 => k_is); (case z15 => k_is); (case gc0 => k_is); (case glg0_7 => k_is); (case xn_ThankError => k_is); (case xn_LostError => k_is); (case xn_StandError => k_is); (case xn_NoNumber => k_is); (case xn_NoDeed => k_is); (case xn_NoBook => k_is); (case xn_NoWeb => k_is); (case xn_NoNames => k_is); (case xn_NoAmount => k_is); (case xn_NoMany => k_is); (case xn_NoText => k_is); (case xn_NoRow => k_is); (case xn_NoName => k_is); (case xn_NoLot => k_is); (case xn_NoPlace => k_is); (case xn_NoBack => k_is); (case xn_Fails => k_is); (case xn_NoMates => k_is); (case xn_TooMany => k_is); (case xl_NoNumber => k_is); (case xi_NoNumber => k_is); (case xf_NoNumber => k_is); (case xt_NoNumber => k_is); (case xd_NoNumber => k_is); (case xl_NoDeed => k_is); (case xi_NoDeed => k_is); (case xf_NoDeed => k_is); (case xt_NoDeed => k_is); (case xd_NoDeed => k_is); (case xl_NoBook => k_is); (case xi_NoBook => k_is); (case xf_NoBook => k_is); (case xt_NoBook => k_is); (case xd_NoBook => k_is); (case xl_NoWeb => k_is); (case xi_NoWeb => k_is); (case xf_NoWeb => k_is); (case xt_NoWeb => k_is); (case xd_NoWeb => k_is); (case xl_NoNames => k_is); (case xi_NoNames => k_is); (case xf_NoNames => k_is); (case xt_NoNames => k_is); (case xd_NoNames => k_is); (case xl_NoAmount => k_is); (case xi_NoAmount => k_is); (case xf_NoAmount => k_is); (case xt_NoAmount => k_is); (case xd_NoAmount => k_is); (case xl_NoMany => k_is); (case xi_NoMany => k_is); (case xf_NoMany => k_is); (case xt_NoMany => k_is); (case xd_NoMany => k_is); (case xl_NoText => k_is); (case xi_NoText => k_is); (case xf_NoText => k_is); (case xt_NoText => k_is); (case xd_NoText => k_is); (case xl_NoRow => k_is); (case xi_NoRow => k_is); (case xf_NoRow => k_is); (case xt_NoRow => k_is); (case xd_NoRow => k_is); (case xl_NoName => k_is); (case xi_NoName => k_is); (case xf_NoName => k_is); (case xt_NoName => k_is); (case xd_NoName => k_is); (case xl_NoLot => k_is); (case xi_NoLot => k_is); (case xf_NoLot => k_is); (case xt_NoLot => k_is); (case xd_NoLot => k_is); (case xl_NoPlace => k_is); (case xi_NoPlace => k_is); (case xf_NoPlace => k_is); (case xt_NoPlace => k_is); (case xd_NoPlace => k_is); (case xl_Fails => k_is); (case xi_Fails => k_is); (case xf_Fails => k_is); (case xt_Fails => k_is); (case xd_Fails => k_is); (case xl_TooMany => k_is); (case xi_TooMany => k_is); (case xf_TooMany => k_is); (case xt_TooMany => k_is); (case xd_TooMany => k_is); (case rb_LostError => kernel_rfl); (case rb_StandError => kernel_rfl); (case rb_ThankError => kernel_rfl); (case xo_NoNumber => kernel_rfl); (case xo_NoDeed => kernel_rfl); (case xo_NoBook => kernel_rfl); (case xo_NoWeb => kernel_rfl); (case xo_NoNames => kernel_rfl); (case xo_NoAmount => kernel_rfl); (case xo_NoMany => kernel_rfl); (case xo_NoText => kernel_rfl); (case xo_NoRow => kernel_rfl); (case xo_NoName => kernel_rfl); (case xo_NoLot => kernel_rfl); (case xo_NoPlace => kernel_rfl); (case xo_Fails => kernel_rfl); (case xo_TooMany => kernel_rfl); (case xr_NoNumber => kernel_rfl); (case xr_NoDeed => kernel_rfl); (case xr_NoBook => kernel_rfl); (case xr_ThankError => kernel_rfl); (case xr_LostError => kernel_rfl); (case xr_StandError => kernel_rfl); (case xr_ValueError => kernel_rfl); (case xr_LookupError => kernel_rfl); (case xr_ArithmeticError => kernel_rfl); (case xr_NoWeb => kernel_rfl); (case xr_NoNames => kernel_rfl); (case xr_NoAmount => kernel_rfl); (case xr_NoMany => kernel_rfl); (case xr_NoText => kernel_rfl); (case xr_NoRow => kernel_rfl); (case xr_NoName => kernel_rfl); (case xr_NoLot => kernel_rfl); (case xr_NoPlace => kernel_rfl); (case xr_NoBack => kernel_rfl); (case xr_Fails => kernel_rfl); (case xr_NoMates => kernel_rfl); (case xr_TooMany => kernel_rfl); (case xa => kernel_rfl)
