import PyProof.Rows.All
import Wide.All
import OpenK.AllK
import Wide.FinOn
import HandS.ForMost
import HandS.Walk
import HandS.Zip
import HandS.Conv
import HandS.Deep
import HandS.IsInst
import HandS.TupAny
import HandS.TupMul
import HandS.SortInts
import HandS.Flow
import HandS.DictComp
import HandS.Style
import HandS.Defaults
import PySem.Challenge.RW_searchduel_k06_windows_by_hand
set_option Elab.async false
set_option linter.all false
set_option maxRecDepth 100000
/-! Dz: data of any depth in a part of the heap; what an expression, a test, a walk comes to, over an environment of data. -/
namespace Dz
open PySem L2

/-! ### parts of the heap -/
theorem same_seqT {K : PySem.W.Frag} {H H' : Hp} {a : Addr} {xs : List V} (e : Same H H') (h : SqT K H a xs) : SqT K H' a xs := by
  rcases h with (h | ⟨o, h⟩) | h
  · exact .inl (.inl (e _ _ h))
  · exact .inl (.inr ⟨o, e _ _ h⟩)
  · exact .inr h
mutual
theorem dp_mono {K : PySem.W.Frag} {H H' : Hp} (e : Same H H') : ∀ (d : PyData) (v : V), Dp K H v d → Dp K H' v d
  | .none, _, h => by cases h; exact .non
  | .bool b, _, h => by cases h; exact .bl b
  | .int i, _, h => by cases h; exact .int i
  | .str x, _, h => by cases h; exact .str x
  | .list ds, _, h => by
    cases h with
    | lst hs ha => exact .lst (e.seq hs) (dpAll_mono e ds _ ha)
  | .tuple ds, _, h => by
    cases h with
    | tup hs ha => exact .tup (same_seqT e hs) (dpAll_mono e ds _ ha)
  | .dict _, _, h => by cases h
theorem dpAll_mono {K : PySem.W.Frag} {H H' : Hp} (e : Same H H') : ∀ (ds : List PyData) (vs : List V), DpAll K H vs ds → DpAll K H' vs ds
  | [], _, h => by cases h; exact .nil
  | d :: ds, _, h => by
    cases h with
    | cons h1 h2 => exact .cons (dp_mono e d _ h1) (dpAll_mono e ds _ h2)
end
theorem Dp_mono {K : PySem.W.Frag} {H H' : Hp} {v : V} {d : PyData} (h : Dp K H v d) (e : Same H H') : Dp K H' v d := dp_mono e d v h
theorem DpAll_mono {K : PySem.W.Frag} {H H' : Hp} {v : List V} {d : List PyData} (h : DpAll K H v d) (e : Same H H') : DpAll K H' v d := dpAll_mono e d v h
theorem DpAll_len {K : PySem.W.Frag} {H : Hp} : ∀ {vs : List V} {ds : List PyData}, DpAll K H vs ds → vs.length = ds.length
  | _, [], h => by cases h; rfl
  | _, d :: ds, h => by
    cases h with
    | cons h1 h2 => simp [DpAll_len h2]
theorem DpAll_get {K : PySem.W.Frag} {H : Hp} : ∀ {vs : List V} {ds : List PyData} {i : Nat} {d : PyData}, DpAll K H vs ds → ds[i]? = some d → ∃ v, vs[i]? = some v ∧ Dp K H v d
  | _, [], _, _, h, e => by simp at e
  | _, d :: ds, 0, _, h, e => by
    cases h with
    | cons h1 h2 => simp at e; subst e; exact ⟨_, rfl, h1⟩
  | _, d :: ds, i + 1, _, h, e => by
    cases h with
    | cons h1 h2 =>
      obtain ⟨v, a, b⟩ := DpAll_get (i := i) h2 (by simpa using e)
      exact ⟨v, by simpa using a, b⟩
theorem DpAll_get' {K : PySem.W.Frag} {H : Hp} : ∀ {vs : List V} {ds : List PyData} {i : Nat} {v : V}, DpAll K H vs ds → vs[i]? = some v → ∃ d, ds[i]? = some d ∧ Dp K H v d
  | _, [], _, _, h, e => by cases h; simp at e
  | _, d :: ds, 0, _, h, e => by
    cases h with
    | cons h1 h2 => simp at e; subst e; exact ⟨_, rfl, h1⟩
  | _, d :: ds, i + 1, _, h, e => by
    cases h with
    | cons h1 h2 =>
      obtain ⟨v, a, b⟩ := DpAll_get' (i := i) h2 (by simpa using e)
      exact ⟨v, by simpa using a, b⟩
theorem DpAll_app {K : PySem.W.Frag} {H : Hp} : ∀ {vs ws : List V} {ds es : List PyData}, DpAll K H vs ds → DpAll K H ws es → DpAll K H (vs ++ ws) (ds ++ es)
  | _, _, [], _, h, k => by cases h; exact k
  | _, _, d :: ds, _, h, k => by
    cases h with
    | cons h1 h2 => exact .cons h1 (DpAll_app h2 k)
theorem DpAll_take {K : PySem.W.Frag} {H : Hp} : ∀ {vs : List V} {ds : List PyData} (n : Nat), DpAll K H vs ds → DpAll K H (vs.take n) (ds.take n)
  | _, _, 0, _ => by simp; exact .nil
  | _, [], n + 1, h => by cases h; exact .nil
  | _, d :: ds, n + 1, h => by
    cases h with
    | cons h1 h2 => exact .cons h1 (DpAll_take n h2)
theorem DpAll_drop {K : PySem.W.Frag} {H : Hp} : ∀ {vs : List V} {ds : List PyData} (n : Nat), DpAll K H vs ds → DpAll K H (vs.drop n) (ds.drop n)
  | _, _, 0, h => by simpa using h
  | _, [], n + 1, h => by cases h; exact .nil
  | _, d :: ds, n + 1, h => by
    cases h with
    | cons h1 h2 => exact DpAll_drop n h2
theorem DpAll_set {K : PySem.W.Frag} {H : Hp} {v : V} {d : PyData} (hd : Dp K H v d) : ∀ {vs : List V} {ds : List PyData} (n : Nat), DpAll K H vs ds → DpAll K H (vs.set n v) (ds.set n d)
  | _, [], _, h => by cases h; exact .nil
  | _, _ :: ds, 0, h => by
    cases h with
    | cons h1 h2 => exact .cons hd h2
  | _, _ :: ds, n + 1, h => by
    cases h with
    | cons h1 h2 => exact .cons h1 (DpAll_set hd n h2)
theorem DpAll_erase {K : PySem.W.Frag} {H : Hp} : ∀ {vs : List V} {ds : List PyData} (n : Nat), DpAll K H vs ds → DpAll K H (vs.eraseIdx n) (ds.eraseIdx n)
  | _, [], _, h => by cases h; exact .nil
  | _, _ :: ds, 0, h => by
    cases h with
    | cons h1 h2 => exact h2
  | _, _ :: ds, n + 1, h => by
    cases h with
    | cons h1 h2 => exact .cons h1 (DpAll_erase n h2)
theorem DpAll_ints {K : PySem.W.Frag} {H : Hp} : ∀ ns : List Int, DpAll K H (ns.map V.int) (ns.map PyData.int)
  | [] => .nil
  | n :: ns => .cons (.int n) (DpAll_ints ns)
theorem ints_of {K : PySem.W.Frag} {H : Hp} : ∀ {vs : List V} {ns : List Int}, DpAll K H vs (ns.map PyData.int) → vs = ns.map V.int
  | _, [], h => by cases h; rfl
  | _, n :: ns, h => by
    cases h with
    | cons h1 h2 =>
      cases h1
      rw [ints_of (ns := ns) h2]
      rfl
theorem bools_of {K : PySem.W.Frag} {H : Hp} : ∀ {vs : List V} {ns : List Bool}, DpAll K H vs (ns.map PyData.bool) → vs = ns.map V.bl
  | _, [], h => by cases h; rfl
  | _, n :: ns, h => by
    cases h with
    | cons h1 h2 =>
      cases h1
      rw [bools_of (ns := ns) h2]
      rfl

/-- S, H ahead; S', H' behind: S grows within H', what of H lay out of S stays out of it, what is not in m stays -/
structure Grow (m : Addr → Prop) (S H S' H' : Hp) : Prop where
  s : Same S S'
  f : Same S' H'
  n : ∀ a, S a = none → H a ≠ none → S' a = none
  k : ∀ a o, ¬ m a → H a = some o → H' a = some o
  d : ∀ a, H a ≠ none → H' a ≠ none
def m0 : Addr → Prop := fun _ => False
theorem some_ne {α : Type} {x : Option α} {o : α} (h : x = some o) : x ≠ none := by rw [h]; exact fun z => nomatch z
theorem ne_some {α : Type} {x : Option α} (h : x ≠ none) : ∃ o, x = some o := by
  cases x with
  | none => exact absurd rfl h
  | some o => exact ⟨o, rfl⟩
section
variable {m m' : Addr → Prop} {S H S1 H1 S2 H2 : Hp} {p : Addr} {o : HO}
theorem Grow.refl (h : Same S H) : Grow m S H S H := ⟨Same.refl S, h, fun _ e _ => e, fun _ _ _ e => e, fun _ e => e⟩
theorem Grow.trans (a : Grow m S H S1 H1) (b : Grow m S1 H1 S2 H2) : Grow m S H S2 H2 :=
  ⟨a.s.trans b.s, b.f, fun x e q => b.n x (a.n x e q) (a.d x q), fun x u hm e => b.k x u hm (a.k x u hm e), fun x e => b.d x (a.d x e)⟩
theorem Grow.mono (a : Grow m S H S1 H1) (h : ∀ x, m x → m' x) : Grow m' S H S1 H1 := ⟨a.s, a.f, a.n, fun x u hm e => a.k x u (fun z => hm (h x z)) e, a.d⟩
theorem Grow.any (a : Grow m0 S H S1 H1) : Grow m S H S1 H1 := a.mono fun _ h => h.elim
theorem Grow.all (a : Grow m0 S H S1 H1) : Same H H1 := fun x u e => a.k x u (fun z => z) e
theorem same_up (h : S p = none) : Same S (upd S p o) := fun b x e => by rw [upd_ne (ne_of_none e h)]; exact e
theorem same_upup (h : Same S H) : Same (upd S p o) (upd H p o) := fun b x e => by
  by_cases hb : b = p
  · subst hb; rw [upd_same] at e ⊢; exact e
  · rw [upd_ne hb] at e ⊢; exact h b x e
theorem Grow.new (h : Same S H) (hp : H p = none) : Grow m S H (upd S p o) (upd H p o) := by
  have sp : S p = none := h.free hp
  refine ⟨same_up sp, same_upup h, fun a e q => ?_, fun a u _ e => ?_, fun a e => ?_⟩
  · have : a ≠ p := fun z => by subst z; exact q hp
    rw [upd_ne this]; exact e
  · rw [upd_ne (ne_of_none e hp)]; exact e
  · obtain ⟨u, hu⟩ := ne_some e
    rw [upd_ne (ne_of_none hu hp)]; exact e
/-- a new object that stays out of the part -/
theorem Grow.out (h : Same S H) (hp : H p = none) : Grow m S H S (upd H p o) :=
  ⟨Same.refl S, fun b x e => by rw [upd_ne (ne_of_none (h b x e) hp)]; exact h b x e, fun _ e _ => e, fun a u _ e => by rw [upd_ne (ne_of_none e hp)]; exact e, fun a e => by
    obtain ⟨u, hu⟩ := ne_some e
    rw [upd_ne (ne_of_none hu hp)]; exact e⟩
/-- an object in m is written -/
theorem Grow.put (h : Same S H) (hp : S p = none) (hm : m p) (hx : H p ≠ none) : Grow m S H S (upd H p o) :=
  ⟨Same.refl S, fun b x e => by rw [upd_ne (ne_of_none e hp)]; exact h b x e, fun _ e _ => e, fun a u hn e => by
    have : a ≠ p := fun z => by subst z; exact hn hm
    rw [upd_ne this]; exact e, fun a e => by
    by_cases z : a = p
    · subst z; rw [upd_same]; exact fun q => nomatch q
    · rw [upd_ne z]; exact e⟩
end

/-! ### environments -/
inductive Sl where
  | no
  | dat (d : PyData)
  | own (o : Addr) (ds : List PyData)
  | val (v : V)
  | town (t : Addr) (n : Nat)
  | dct (o : Addr) (kvs : List (Key × PyData))
def Sl.adr : Sl → Option Addr
  | .own o _ => some o
  | .town t _ => some t
  | .dct o _ => some o
  | _ => none
def muts (l : List Sl) : List Addr := l.filterMap Sl.adr
def KvD (K : PySem.W.Frag) (S : Hp) : List (Key × V) → List (Key × PyData) → Prop := Paired fun w k => w.1 = k.1 ∧ Dp K S w.2 k.2
/-- the town: ints, at most n of them, one at least where n is not 0 -/
def TownAt (H : Hp) (t : Addr) (n : Nat) : Prop := ∃ ns : List Int, H t = some (.lst (ns.map V.int)) ∧ ns.length ≤ n ∧ (0 < n → ns ≠ [])
def SlOk (K : PySem.W.Frag) (H0 S H : Hp) : Sl → Option V → Prop
  | .no, _ => True
  | .dat d, x => ∃ v, x = some v ∧ Dp K S v d
  | .own o ds, x => x = some (.ref o) ∧ H0 o = none ∧ S o = none ∧ ∃ xs, H o = some (.lst xs) ∧ DpAll K S xs ds
  | .val v, x => x = some v
  | .town t n, x => x = some (.ref t) ∧ S t = none ∧ TownAt H t n
  | .dct o kvs, x => x = some (.ref o) ∧ H0 o = none ∧ S o = none ∧ ∃ ws, H o = some (.dK ws) ∧ KvD K S ws kvs
structure Env (K : PySem.W.Frag) (H0 S H : Hp) (s : L2.St) (l : List Sl) : Prop where
  len : s.length = l.length
  ok : ∀ (i : Nat) (x : Sl), l[i]? = some x → ∃ v, s[i]? = some v ∧ SlOk K H0 S H x v
  nd : (muts l).Nodup
section
variable {K : PySem.W.Frag} {m : Addr → Prop} {H0 S H S1 H1 S2 H2 : Hp} {p : Addr} {o : HO} {s : L2.St} {l l' : List Sl} {i : Nat} {x y : Sl} {v : Option V}
theorem KvD.mono {ws : List (Key × V)} {kvs : List (Key × PyData)} (h : KvD K S ws kvs) (e : Same S S1) : KvD K S1 ws kvs := Paired.mapP h fun _ _ q => ⟨q.1, Dp_mono q.2 e⟩
theorem SlOk.go (h : SlOk K H0 S H x v) (hs : Same S S1) (hn : ∀ a, S a = none → H a ≠ none → S1 a = none) (hk : ∀ a u, x.adr = some a → H a = some u → H1 a = some u) : SlOk K H0 S1 H1 x v := by
  cases x with
  | no => trivial
  | dat d => obtain ⟨w, e, q⟩ := h; exact ⟨w, e, Dp_mono q hs⟩
  | own o ds =>
    obtain ⟨e, f, g, xs, a, b⟩ := h
    exact ⟨e, f, hn o g (some_ne a), xs, hk o _ rfl a, DpAll_mono b hs⟩
  | val w => exact h
  | town t n => obtain ⟨e, g, ns, a, b⟩ := h; exact ⟨e, hn t g (some_ne a), ns, hk t _ rfl a, b⟩
  | dct o kvs =>
    obtain ⟨e, f, g, ws, a, b⟩ := h
    exact ⟨e, f, hn o g (some_ne a), ws, hk o _ rfl a, b.mono hs⟩
theorem SlOk.there (h : SlOk K H0 S H x v) {a : Addr} (e : x.adr = some a) : H a ≠ none ∧ S a = none := by
  cases x with
  | no => cases e
  | dat d => cases e
  | own o ds => cases e; obtain ⟨_, _, g, xs, q, _⟩ := h; exact ⟨some_ne q, g⟩
  | val w => cases e
  | town t n => cases e; obtain ⟨_, g, xs, q, _⟩ := h; exact ⟨some_ne q, g⟩
  | dct o kvs => cases e; obtain ⟨_, _, g, xs, q, _⟩ := h; exact ⟨some_ne q, g⟩
theorem mem_muts {a : Addr} : a ∈ muts l ↔ ∃ (j : Nat) (z : Sl), l[j]? = some z ∧ z.adr = some a := by
  unfold muts
  rw [List.mem_filterMap]
  constructor
  · rintro ⟨z, hz, e⟩
    obtain ⟨j, hj⟩ := List.mem_iff_getElem?.mp hz
    exact ⟨j, z, hj, e⟩
  · rintro ⟨j, z, hj, e⟩
    exact ⟨z, List.mem_iff_getElem?.mpr ⟨j, hj⟩, e⟩
theorem Env.there (h : Env K H0 S H s l) {a : Addr} (e : a ∈ muts l) : H a ≠ none ∧ S a = none := by
  obtain ⟨j, z, hj, q⟩ := mem_muts.mp e
  obtain ⟨w, _, k⟩ := h.ok j z hj
  exact k.there q
theorem Env.go (h : Env K H0 S H s l) (hs : Same S S1) (hn : ∀ a, S a = none → H a ≠ none → S1 a = none) (hk : ∀ a u, a ∈ muts l → H a = some u → H1 a = some u) : Env K H0 S1 H1 s l :=
  ⟨h.len, fun i x e => by
    obtain ⟨w, a, b⟩ := h.ok i x e
    exact ⟨w, a, b.go hs hn fun c u q => hk c u (mem_muts.mpr ⟨i, x, e, q⟩)⟩, h.nd⟩
theorem Env.grow (h : Env K H0 S H s l) (g : Grow m0 S H S1 H1) : Env K H0 S1 H1 s l := h.go g.s g.n fun a u _ => g.k a u (fun z => z)
theorem nodup_eq {α : Type} {ys : List Addr} {f : α → Option Addr} : ∀ {zs : List α}, (zs.filterMap f).Nodup → ∀ {i j : Nat} {x y : α} {a : Addr}, zs[i]? = some x → zs[j]? = some y → f x = some a → f y = some a → i = j
  | [], _, i, j, x, y, a, h, _, _, _ => by simp at h
  | z :: zs, hn, i, j, x, y, a, h1, h2, e1, e2 => by
    cases i with
    | zero =>
      cases j with
      | zero => rfl
      | succ j =>
        simp at h1 h2
        subst h1
        rw [List.filterMap_cons, e1] at hn
        have : a ∈ zs.filterMap f := List.mem_filterMap.mpr ⟨y, List.mem_of_getElem? h2, e2⟩
        exact absurd this (List.nodup_cons.mp hn).1
    | succ i =>
      cases j with
      | zero =>
        simp at h1 h2
        subst h2
        rw [List.filterMap_cons, e2] at hn
        have : a ∈ zs.filterMap f := List.mem_filterMap.mpr ⟨x, List.mem_of_getElem? h1, e1⟩
        exact absurd this (List.nodup_cons.mp hn).1
      | succ j =>
        simp at h1 h2
        have hn' : (zs.filterMap f).Nodup := by
          rw [List.filterMap_cons] at hn
          split at hn
          · exact hn
          · exact (List.nodup_cons.mp hn).2
        rw [nodup_eq (ys := ys) hn' h1 h2 e1 e2]
theorem muts_set_sub : ∀ (l : List Sl) (i : Nat) (y : Sl), y.adr = none → (muts (l.set i y)).Sublist (muts l)
  | [], _, _, _ => List.Sublist.refl _
  | z :: l, 0, y, h => by
    show (List.filterMap Sl.adr (y :: l)).Sublist (List.filterMap Sl.adr (z :: l))
    rw [List.filterMap_cons, h, List.filterMap_cons]
    show (List.filterMap Sl.adr l).Sublist _
    cases z.adr with
    | none => exact List.Sublist.refl _
    | some b => exact List.sublist_cons_self _ _
  | z :: l, i + 1, y, h => by
    show (List.filterMap Sl.adr (z :: l.set i y)).Sublist (List.filterMap Sl.adr (z :: l))
    rw [List.filterMap_cons, List.filterMap_cons]
    have ih := muts_set_sub l i y h
    split
    · exact ih
    · exact ih.cons₂ _
theorem muts_set_same : ∀ (l : List Sl) (i : Nat) (x y : Sl), l[i]? = some x → y.adr = x.adr → muts (l.set i y) = muts l
  | [], _, _, _, h, _ => by simp at h
  | z :: l, 0, x, y, h, e => by
    simp at h
    subst h
    show List.filterMap Sl.adr (y :: l) = List.filterMap Sl.adr (z :: l)
    rw [List.filterMap_cons, List.filterMap_cons, e]
  | z :: l, i + 1, x, y, h, e => by
    simp at h
    show List.filterMap Sl.adr (z :: l.set i y) = List.filterMap Sl.adr (z :: l)
    rw [List.filterMap_cons, List.filterMap_cons]
    have ih : List.filterMap Sl.adr (l.set i y) = List.filterMap Sl.adr l := muts_set_same l i x y h e
    rw [ih]
theorem muts_set_new : ∀ (l : List Sl) (i : Nat) (y : Sl) (a : Addr), y.adr = some a → a ∉ muts l → (muts l).Nodup → (muts (l.set i y)).Nodup
  | [], _, _, _, _, _, h => h
  | z :: l, 0, y, a, e, hn, h => by
    show (List.filterMap Sl.adr (y :: l)).Nodup
    rw [List.filterMap_cons, e]
    have h' : (List.filterMap Sl.adr (z :: l)).Nodup := h
    have hn' : a ∉ List.filterMap Sl.adr (z :: l) := hn
    rw [List.filterMap_cons] at h' hn'
    split at h'
    · rename_i hz
      rw [hz] at hn'
      exact List.nodup_cons.mpr ⟨hn', h'⟩
    · rename_i b hz
      rw [hz] at hn'
      exact List.nodup_cons.mpr ⟨fun q => hn' (List.mem_cons_of_mem _ q), (List.nodup_cons.mp h').2⟩
  | z :: l, i + 1, y, a, e, hn, h => by
    show (List.filterMap Sl.adr (z :: l.set i y)).Nodup
    have h' : (List.filterMap Sl.adr (z :: l)).Nodup := h
    have hn' : a ∉ List.filterMap Sl.adr (z :: l) := hn
    rw [List.filterMap_cons] at h' hn' ⊢
    split at h'
    · rename_i hz
      rw [hz] at hn'
      exact muts_set_new l i y a e hn' h'
    · rename_i b hz
      rw [hz] at hn'
      have ih : (muts (l.set i y)).Nodup := muts_set_new l i y a e (fun q => hn' (List.mem_cons_of_mem _ q)) (List.nodup_cons.mp h').2
      refine List.nodup_cons.mpr ⟨fun q => ?_, ih⟩
      obtain ⟨j, w, hj, hw⟩ := mem_muts.mp (show b ∈ muts (l.set i y) from q)
      rw [List.getElem?_set] at hj
      split at hj
      · split at hj
        · cases hj
          rw [e] at hw
          cases hw
          exact hn' List.mem_cons_self
        · cases hj
      · exact (List.nodup_cons.mp h').1 (mem_muts.mpr ⟨j, w, hj, hw⟩)
/-- a slot gets a datum, a value, nothing -/
theorem Env.set (h : Env K H0 S H s l) {w : Option V} (hy : y.adr = none) (ok : SlOk K H0 S H y w) : Env K H0 S H (s.set i w) (l.set i y) :=
  ⟨by rw [List.length_set, List.length_set]; exact h.len, fun j z e => by
    by_cases hij : i = j
    · subst hij
      have hl : i < l.length := by
        have := (List.getElem?_eq_some_iff.mp e).1
        rwa [List.length_set] at this
      rw [List.getElem?_set_self hl] at e
      cases e
      exact ⟨w, List.getElem?_set_self (by rw [h.len]; exact hl), ok⟩
    · rw [List.getElem?_set_ne hij] at e ⊢
      exact h.ok j z e, (muts_set_sub l i y hy).nodup h.nd⟩
theorem Env.dat (h : Env K H0 S H s l) {w : V} {d : PyData} (q : Dp K S w d) : Env K H0 S H (s.set i (some w)) (l.set i (.dat d)) := h.set rfl ⟨w, rfl, q⟩
theorem Env.val (h : Env K H0 S H s l) {w : V} : Env K H0 S H (s.set i (some w)) (l.set i (.val w)) := h.set rfl rfl
theorem Env.forget (h : Env K H0 S H s l) {w : Option V} : Env K H0 S H (s.set i w) (l.set i .no) := h.set rfl trivial
/-- a slot gets a new object of its own -/
theorem Env.fresh (h : Env K H0 S H s l) {w : V} {a : Addr} (hy : y.adr = some a) (ha : a ∉ muts l) (ok : SlOk K H0 S H y (some w)) : Env K H0 S H (s.set i (some w)) (l.set i y) :=
  ⟨by rw [List.length_set, List.length_set]; exact h.len, fun j z e => by
    by_cases hij : i = j
    · subst hij
      have hl : i < l.length := by
        have := (List.getElem?_eq_some_iff.mp e).1
        rwa [List.length_set] at this
      rw [List.getElem?_set_self hl] at e
      cases e
      exact ⟨some w, List.getElem?_set_self (by rw [h.len]; exact hl), ok⟩
    · rw [List.getElem?_set_ne hij] at e ⊢
      exact h.ok j z e, muts_set_new l i y a hy ha h.nd⟩
/-- the object of a slot is changed -/
theorem Env.put (h : Env K H0 S H s l) {a : Addr} (hi : l[i]? = some x) (hx : x.adr = some a) (hy : y.adr = some a) (hs : Same S S1) (hn : ∀ b, S b = none → H b ≠ none → S1 b = none) (hk : ∀ b u, b ≠ a → H b = some u → H1 b = some u)
    (ok : ∀ v, SlOk K H0 S H x v → SlOk K H0 S1 H1 y v) : Env K H0 S1 H1 s (l.set i y) :=
  ⟨by rw [List.length_set]; exact h.len, fun j z e => by
    by_cases hij : i = j
    · subst hij
      have hl : i < l.length := (List.getElem?_eq_some_iff.mp hi).1
      rw [List.getElem?_set_self hl] at e
      cases e
      obtain ⟨v, q, r⟩ := h.ok i x hi
      exact ⟨v, q, ok v r⟩
    · rw [List.getElem?_set_ne hij] at e
      obtain ⟨v, q, r⟩ := h.ok j z e
      refine ⟨v, q, r.go hs hn fun b u hb => hk b u fun hba => ?_⟩
      subst hba
      exact hij (nodup_eq (ys := []) h.nd hi e hx hb), by rw [muts_set_same l i x y hi (hy.trans hx.symm)]; exact h.nd⟩
end
end Dz

namespace Dz
open PySem L2

/-! ### what comes to what, over an environment of data -/
def rLenK (K : PySem.W.Frag) : List V → Hp → VK → Prop := fun xs H Q => ∃ p ys, xs = [.ref p] ∧ (SqL K H p ys ∨ SqT K H p ys) ∧ Q (.int ys.length) H
def rListK (K : PySem.W.Frag) : List V → Hp → VK → Prop := fun xs H Q => ∃ p ys, xs = [.ref p] ∧ (SqL K H p ys ∨ SqT K H p ys) ∧ ∀ l, H l = none → Q (.ref l) (upd H l (.lst ys))
def rTupleK (K : PySem.W.Frag) : List V → Hp → VK → Prop := fun xs H Q => ∃ p ys, xs = [.ref p] ∧ ((SqL K H p ys ∧ ∀ l, H l = none → Q (.ref l) (upd H l (.tup ys))) ∨ (SqT K H p ys ∧ Q (.ref p) H))
def Ev (K : PySem.W.Frag) (te : TE) (l : List Sl) (d : PyData) : Prop := ∀ H0 S H s, Env K H0 S H s l → Same S H → ∀ Q : VK, (∀ v S' H', Grow m0 S H S' H' → Dp K S' v d → Q v H') → te s H Q
def EvT (K : PySem.W.Frag) (tt : TT) (l : List Sl) (b : Bool) : Prop := ∀ H0 S H s, Env K H0 S H s l → Same S H → ∀ Q : Bool → Hp → Prop, (∀ S' H', Grow m0 S H S' H' → Q b H') → tt s H Q
def EvA (K : PySem.W.Frag) (ta : TA) (l : List Sl) (ds : List PyData) : Prop := ∀ H0 S H s, Env K H0 S H s l → Same S H → ∀ Q : List V → Hp → Prop, (∀ vs S' H', Grow m0 S H S' H' → DpAll K S' vs ds → Q vs H') → ta s H Q
def EvO (K : PySem.W.Frag) (to : TO) (l : List Sl) (o : Option Int) : Prop := ∀ H0 S H s, Env K H0 S H s l → Same S H → ∀ Q : Option Int → Hp → Prop, (∀ S' H', Grow m0 S H S' H' → Q o H') → to s H Q
def RD (K : PySem.W.Frag) (r : R2) (a b c : PyData) : Prop := ∀ x y S H (Q : VK), Same S H → Dp K S x a → Dp K S y b → (∀ v S' H', Grow m0 S H S' H' → Dp K S' v c → Q v H') → r x y H Q
def RUD (K : PySem.W.Frag) (r : V → Hp → VK → Prop) (a c : PyData) : Prop := ∀ x S H (Q : VK), Same S H → Dp K S x a → (∀ v S' H', Grow m0 S H S' H' → Dp K S' v c → Q v H') → r x H Q
def RCD (K : PySem.W.Frag) (r : List V → Hp → VK → Prop) (as : List PyData) (c : PyData) : Prop := ∀ vs S H (Q : VK), Same S H → DpAll K S vs as → (∀ v S' H', Grow m0 S H S' H' → Dp K S' v c → Q v H') → r vs H Q
def SpD (K : PySem.W.Frag) (sp : Sp) (as : List PyData) (c : PyData) : Prop := ∀ vs S H (Q : VK) (E : XK), Same S H → DpAll K S vs as → (∀ v S' H', Grow m0 S H S' H' → Dp K S' v c → Q v H') → sp vs H Q E
section
variable {K : PySem.W.Frag} {l : List Sl} {ta tb te : TE} {t u : TT} {a b c d : PyData} {r : R2}
theorem ev_var {i : Nat} (h : l[i]? = some (.dat d)) : Ev K (tVar i) l d := fun H0 S H s e hs Q q => by
  obtain ⟨v, hv, w, rfl, hd⟩ := e.ok i _ h
  exact ⟨w, hv, q w S H (Grow.refl hs) hd⟩
theorem ev_int {i : Int} : Ev K (tC (.int i)) l (.int i) := fun H0 S H s e hs Q q => q _ S H (Grow.refl hs) (.int i)
theorem ev_bl {i : Bool} : Ev K (tC (.bl i)) l (.bool i) := fun H0 S H s e hs Q q => q _ S H (Grow.refl hs) (.bl i)
theorem ev_str {i : Str} : Ev K (tC (.str i)) l (.str i) := fun H0 S H s e hs Q q => q _ S H (Grow.refl hs) (.str i)
theorem ev_non : Ev K (tC .non) l .none := fun H0 S H s e hs Q q => q _ S H (Grow.refl hs) .non
theorem ev_op (ha : Ev K ta l a) (hb : Ev K tb l b) (hr : RD K r a b c) : Ev K (tOp r ta tb) l c := fun H0 S H s e hs Q q =>
  ha H0 S H s e hs _ fun x S1 H1 g1 d1 => hb H0 S1 H1 s (e.grow g1) g1.f _ fun y S2 H2 g2 d2 => hr x y S2 H2 Q g2.f (Dp_mono d1 g2.s) d2 fun v S3 H3 g3 d3 => q v S3 H3 ((g1.trans g2).trans g3) d3
theorem ev_un {r : V → Hp → VK → Prop} (ha : Ev K ta l a) (hr : RUD K r a c) : Ev K (tUn r ta) l c := fun H0 S H s e hs Q q =>
  ha H0 S H s e hs _ fun x S1 H1 g1 d1 => hr x S1 H1 Q g1.f d1 fun v S3 H3 g3 d3 => q v S3 H3 (g1.trans g3) d3
theorem ea_nil : EvA K tNil l [] := fun H0 S H s e hs Q q => q [] S H (Grow.refl hs) .nil
theorem ea_cons {tr : TA} {ds : List PyData} (ha : Ev K ta l a) (hr : EvA K tr l ds) : EvA K (tCons ta tr) l (a :: ds) := fun H0 S H s e hs Q q =>
  ha H0 S H s e hs _ fun x S1 H1 g1 d1 => hr H0 S1 H1 s (e.grow g1) g1.f _ fun ys S2 H2 g2 d2 => q _ S2 H2 (g1.trans g2) (.cons (Dp_mono d1 g2.s) d2)
theorem ev_cb {r : List V → Hp → VK → Prop} {tr : TA} {ds : List PyData} (ha : EvA K tr l ds) (hr : RCD K r ds c) : Ev K (tCB r tr) l c := fun H0 S H s e hs Q q =>
  ha H0 S H s e hs _ fun x S1 H1 g1 d1 => hr x S1 H1 Q g1.f d1 fun v S3 H3 g3 d3 => q v S3 H3 (g1.trans g3) d3
theorem ev_call {sp : Sp} {E : XK} {tr : TA} {ds : List PyData} (ha : EvA K tr l ds) (hr : SpD K sp ds c) : Ev K (tCall sp [] E tr) l c := fun H0 S H s e hs Q q =>
  ha H0 S H s e hs _ fun x S1 H1 g1 d1 => hr (x ++ []) S1 H1 Q E g1.f (by rw [List.append_nil]; exact d1) fun v S3 H3 g3 d3 => q v S3 H3 (g1.trans g3) d3
theorem szl {n : Nat} (h : n ≤ 100000) : n ≤ sizeLine := Nat.le_trans h (by decide)
theorem szt {n : Nat} (h : n < 100000) : n < sizeLine := Nat.lt_of_lt_of_le h (by decide)
theorem ev_tup {tr : TA} {ds : List PyData} (ha : EvA K tr l ds) (hl : ds.length ≤ 100000) : Ev K (tTup tr) l (.tuple ds) := fun H0 S H s e hs Q q =>
  ha H0 S H s e hs _ fun xs S1 H1 g1 d1 => ⟨by rw [DpAll_len d1]; exact szl hl, fun p hp =>
    have g2 : Grow m0 S1 H1 (upd S1 p (.tup xs)) (upd H1 p (.tup xs)) := Grow.new g1.f hp
    q _ _ _ (g1.trans g2) (.tup (.inl (.inl upd_same)) (DpAll_mono d1 g2.s))⟩
theorem ev_lst {tr : TA} {ds : List PyData} (ha : EvA K tr l ds) (hl : ds.length ≤ 100000) : Ev K (tLst tr) l (.list ds) := fun H0 S H s e hs Q q =>
  ha H0 S H s e hs _ fun xs S1 H1 g1 d1 => ⟨by rw [DpAll_len d1]; exact szl hl, fun p hp =>
    have g2 : Grow m0 S1 H1 (upd S1 p (.lst xs)) (upd H1 p (.lst xs)) := Grow.new g1.f hp
    q _ _ _ (g1.trans g2) (.lst (.inl (.inl upd_same)) (DpAll_mono d1 g2.s))⟩
theorem ev_if {k : Bool} (h : EvT K t l k) (h1 : k = true → Ev K ta l a) (h2 : k = false → Ev K tb l b) : Ev K (tIf t ta tb) l (if k then a else b) := fun H0 S H s e hs Q q =>
  h H0 S H s e hs _ fun S1 H1 g1 => by
    cases k with
    | true =>
      show ta s H1 Q
      exact h1 rfl H0 S1 H1 s (e.grow g1) g1.f _ fun v S2 H2 g2 d2 => q v S2 H2 (g1.trans g2) d2
    | false =>
      show tb s H1 Q
      exact h2 rfl H0 S1 H1 s (e.grow g1) g1.f _ fun v S2 H2 g2 d2 => q v S2 H2 (g1.trans g2) d2
theorem ev_is (h : Ev K te l a) (e : a = b) : Ev K te l b := e ▸ h
theorem et_is {i j : Bool} (h : EvT K t l i) (e : i = j) : EvT K t l j := e ▸ h
theorem et_test {k : Bool} (h : Ev K te l (.bool k)) : EvT K (tTest te) l k := fun H0 S H s e hs Q q =>
  h H0 S H s e hs _ fun v S1 H1 g1 d1 => by cases d1; exact ⟨k, rfl, q S1 H1 g1⟩
theorem et_B {k : Bool} (h : Ev K te l (.bool k)) : EvT K (tB te) l k := fun H0 S H s e hs Q q =>
  h H0 S H s e hs _ fun v S1 H1 g1 d1 => by cases d1; exact ⟨k, rfl, q S1 H1 g1⟩
theorem et_not {k : Bool} (h : EvT K t l k) : EvT K (tNot t) l (!k) := fun H0 S H s e hs Q q => h H0 S H s e hs _ fun S1 H1 g1 => q S1 H1 g1
theorem et_and {i j : Bool} (h1 : EvT K t l i) (h2 : i = true → EvT K u l j) : EvT K (tAnd t u) l (i && j) := fun H0 S H s e hs Q q =>
  h1 H0 S H s e hs _ fun S1 H1 g1 => by
    cases i with
    | true =>
      show u s H1 Q
      exact h2 rfl H0 S1 H1 s (e.grow g1) g1.f _ fun S2 H2 g2 => q S2 H2 (g1.trans g2)
    | false =>
      show Q false H1
      exact q S1 H1 g1
theorem et_or {i j : Bool} (h1 : EvT K t l i) (h2 : i = false → EvT K u l j) : EvT K (tOr t u) l (i || j) := fun H0 S H s e hs Q q =>
  h1 H0 S H s e hs _ fun S1 H1 g1 => by
    cases i with
    | false =>
      show u s H1 Q
      exact h2 rfl H0 S1 H1 s (e.grow g1) g1.f _ fun S2 H2 g2 => q S2 H2 (g1.trans g2)
    | true =>
      show Q true H1
      exact q S1 H1 g1
theorem et_yes : EvT K tYes l true := fun H0 S H s e hs Q q => q S H (Grow.refl hs)
theorem ev_andV {i j : Bool} (h1 : Ev K ta l (.bool i)) (h2 : i = true → Ev K tb l (.bool j)) : Ev K (tAndV ta tb) l (.bool (i && j)) := fun H0 S H s e hs Q q =>
  h1 H0 S H s e hs _ fun v S1 H1 g1 d1 => by
    cases d1
    refine ⟨i, rfl, ?_⟩
    cases i with
    | true =>
      show tb s H1 Q
      exact h2 rfl H0 S1 H1 s (e.grow g1) g1.f _ fun w S2 H2 g2 d2 => q w S2 H2 (g1.trans g2) d2
    | false =>
      show Q (.bl false) H1
      exact q _ S1 H1 g1 (.bl false)
theorem ev_orV {i j : Bool} (h1 : Ev K ta l (.bool i)) (h2 : i = false → Ev K tb l (.bool j)) : Ev K (tOrV ta tb) l (.bool (i || j)) := fun H0 S H s e hs Q q =>
  h1 H0 S H s e hs _ fun v S1 H1 g1 d1 => by
    cases d1
    refine ⟨i, rfl, ?_⟩
    cases i with
    | false =>
      show tb s H1 Q
      exact h2 rfl H0 S1 H1 s (e.grow g1) g1.f _ fun w S2 H2 g2 d2 => q w S2 H2 (g1.trans g2) d2
    | true =>
      show Q (.bl true) H1
      exact q _ S1 H1 g1 (.bl true)
theorem ev_notV {i : Bool} (h1 : Ev K ta l (.bool i)) : Ev K (tNotV ta) l (.bool (!i)) := fun H0 S H s e hs Q q =>
  h1 H0 S H s e hs _ fun v S1 H1 g1 d1 => by
    cases d1
    exact ⟨i, rfl, q _ S1 H1 g1 (.bl _)⟩
/-- truth of data -/
def truD : PyData → Bool
  | .none => false
  | .bool b => b
  | .int i => i != 0
  | .str y => (y.length : Int) != 0
  | .list ds => !ds.isEmpty
  | .tuple ds => !ds.isEmpty
  | .dict _ => false
theorem isEmpty_dp {S : Hp} {vs : List V} {ds : List PyData} (h : DpAll K S vs ds) : ds.isEmpty = vs.isEmpty := by
  cases h <;> rfl
theorem truV_of {S H : Hp} {v : V} (hs : Same S H) (h : Dp K S v d) (hz : ∀ y, d = .str y → y.length ≤ 100000) : TruV K v H (truD d) := by
  cases h with
  | non => rfl
  | bl b => rfl
  | int i => rfl
  | str x => exact ⟨szl (hz x rfl), rfl⟩
  | lst a b => exact .inl ⟨_, hs.seq a, by show (!_) = !_; rw [isEmpty_dp b]⟩
  | tup a b => exact .inr (.inl ⟨_, same_seqT hs a, by show (!_) = !_; rw [isEmpty_dp b]⟩)
theorem et_truth (h : Ev K ta l a) (hz : ∀ y, a = .str y → y.length ≤ 100000) : EvT K (fun σ H Q => ta σ H fun x H' => ∃ k, TruV K x H' k ∧ Q k H') l (truD a) := fun H0 S H s e hs Q q =>
  h H0 S H s e hs _ fun v S1 H1 g1 d1 => ⟨_, truV_of g1.f d1 hz, q S1 H1 g1⟩
theorem ev_notT (h : Ev K ta l a) (hz : ∀ y, a = .str y → y.length ≤ 100000) : Ev K (tNotT K ta) l (.bool (!truD a)) := fun H0 S H s e hs Q q =>
  h H0 S H s e hs _ fun v S1 H1 g1 d1 => ⟨_, truV_of g1.f d1 hz, q _ S1 H1 g1 (.bl _)⟩
theorem ev_orT (h : Ev K ta l a) (h2 : truD a = false → Ev K tb l b) (hz : ∀ y, a = .str y → y.length ≤ 100000) : Ev K (tOrT K ta tb) l (if truD a then a else b) := fun H0 S H s e hs Q q =>
  h H0 S H s e hs _ fun v S1 H1 g1 d1 => ⟨_, truV_of g1.f d1 hz, by
    cases hk : truD a with
    | true => rw [if_pos rfl]; exact q _ S1 H1 g1 (by rw [hk]; exact d1)
    | false => rw [if_neg Bool.false_ne_true]; exact h2 hk H0 S1 H1 s (e.grow g1) g1.f _ fun w S2 H2 g2 d2 => q w S2 H2 (g1.trans g2) (by rw [hk]; exact d2)⟩
theorem ev_andT (h : Ev K ta l a) (h2 : truD a = true → Ev K tb l b) (hz : ∀ y, a = .str y → y.length ≤ 100000) : Ev K (tAndT K ta tb) l (if truD a then b else a) := fun H0 S H s e hs Q q =>
  h H0 S H s e hs _ fun v S1 H1 g1 d1 => ⟨_, truV_of g1.f d1 hz, by
    cases hk : truD a with
    | false => rw [if_neg Bool.false_ne_true]; exact q _ S1 H1 g1 (by rw [hk]; exact d1)
    | true => rw [if_pos rfl]; exact h2 hk H0 S1 H1 s (e.grow g1) g1.f _ fun w S2 H2 g2 d2 => q w S2 H2 (g1.trans g2) (by rw [hk]; exact d2)⟩
/-- is None, is not None -/
def isN : PyData → Bool
  | .none => true
  | _ => false
theorem dp_isN {S : Hp} {v : V} (h : Dp K S v d) : decide (v = .non) = isN d := by
  cases h <;> simp [isN]
theorem ev_isN (h : Ev K ta l a) : Ev K (tIsN ta) l (.bool (isN a)) := fun H0 S H s e hs Q q =>
  h H0 S H s e hs _ fun v S1 H1 g1 d1 => q _ S1 H1 g1 (by rw [dp_isN d1]; exact .bl _)
theorem ev_notN (h : Ev K ta l a) : Ev K (tNotN ta) l (.bool (!isN a)) := fun H0 S H s e hs Q q =>
  h H0 S H s e hs _ fun v S1 H1 g1 d1 => q _ S1 H1 g1 (by rw [dp_isN d1]; exact .bl _)
theorem ev_chain {r r' : R2} {tc : TE} {i j : Bool} (ha : Ev K ta l a) (hb : Ev K tb l b) (h1 : RD K r a b (.bool i)) (hc : i = true → Ev K tc l c) (h2 : i = true → RD K r' b c (.bool j)) : Ev K (tChain r r' ta tb tc) l (.bool (i && j)) := fun H0 S H s e hs Q q =>
  ha H0 S H s e hs _ fun x S1 H1 g1 d1 => hb H0 S1 H1 s (e.grow g1) g1.f _ fun y S2 H2 g2 d2 => h1 x y S2 H2 _ g2.f (Dp_mono d1 g2.s) d2 fun v S3 H3 g3 d3 => by
    cases d3
    refine ⟨i, rfl, ?_⟩
    cases i with
    | false => rw [if_neg Bool.false_ne_true]; exact q _ S3 H3 ((g1.trans g2).trans g3) (.bl _)
    | true =>
      rw [if_pos rfl]
      refine hc rfl H0 S3 H3 s (e.grow ((g1.trans g2).trans g3)) g3.f _ fun w S4 H4 g4 d4 => ?_
      exact h2 rfl y w S4 H4 Q g4.f (Dp_mono d2 (g3.s.trans g4.s)) d4 fun z S5 H5 g5 d5 => q z S5 H5 ((((g1.trans g2).trans g3).trans g4).trans g5) d5
/-! operators on values -/
theorem rd_I0 {g : Int → Int → V} {i j : Int} (h : ∀ S, Dp K S (g i j) c) : RD K (rI0 g) (.int i) (.int j) c := fun x y S H Q hs hx hy q => by
  cases hx; cases hy
  exact ⟨i, j, rfl, rfl, q _ S H (Grow.refl hs) (h S)⟩
theorem rd_I {C : Int → Int → Prop} {g : Int → Int → V} {i j : Int} (hc : C i j) (h : ∀ S, Dp K S (g i j) c) : RD K (rI C g) (.int i) (.int j) c := fun x y S H Q hs hx hy q => by
  cases hx; cases hy
  exact ⟨i, j, rfl, rfl, hc, q _ S H (Grow.refl hs) (h S)⟩
theorem rud_U {g : Int → V} {i : Int} (h : ∀ S, Dp K S (g i) c) : RUD K (rU g) (.int i) c := fun x S H Q hs hx q => by
  cases hx
  exact ⟨i, rfl, q _ S H (Grow.refl hs) (h S)⟩
/-- a scalar as a value -/
def scV : PyData → Option V
  | .none => some .non
  | .bool b => some (.bl b)
  | .int i => some (.int i)
  | .str x => some (.str x)
  | _ => none
theorem scV_dp {S : Hp} {v w : V} (h : scV d = some w) (q : Dp K S v d) : v = w := by
  cases q <;> first | (cases h; rfl) | cases h
theorem rd_eq {x y : V} (h1 : scV a = some x) (h2 : scV b = some y) (h : scal x y = true) : RD K rEq a b (.bool (decide (x = y))) := fun x' y' S H Q hs hx hy q => by
  rw [scV_dp h1 hx, scV_dp h2 hy]
  exact ⟨h, q _ S H (Grow.refl hs) (.bl _)⟩
theorem rd_ne {x y : V} (h1 : scV a = some x) (h2 : scV b = some y) (h : scal x y = true) : RD K rNe a b (.bool (!decide (x = y))) := fun x' y' S H Q hs hx hy q => by
  rw [scV_dp h1 hx, scV_dp h2 hy]
  exact ⟨h, q _ S H (Grow.refl hs) (.bl _)⟩
theorem rd_eqI {i j : Int} : RD K rEq (.int i) (.int j) (.bool (decide (i = j))) := by
  have := rd_eq (K := K) (a := .int i) (b := .int j) rfl rfl rfl
  simpa using this
theorem rd_neI {i j : Int} : RD K rNe (.int i) (.int j) (.bool (!decide (i = j))) := by
  have := rd_ne (K := K) (a := .int i) (b := .int j) rfl rfl rfl
  simpa using this
theorem rd_eqS {i j : Str} : RD K rEq (.str i) (.str j) (.bool (decide (i = j))) := by
  have := rd_eq (K := K) (a := .str i) (b := .str j) rfl rfl rfl
  simpa using this
theorem rd_neS {i j : Str} : RD K rNe (.str i) (.str j) (.bool (!decide (i = j))) := by
  have := rd_ne (K := K) (a := .str i) (b := .str j) rfl rfl rfl
  simpa using this
theorem rd_eqIS {i : Int} {j : Str} : RD K rEq (.int i) (.str j) (.bool false) := by
  have := rd_eq (K := K) (a := .int i) (b := .str j) rfl rfl rfl
  simpa using this
theorem rd_neIS {i : Int} {j : Str} : RD K rNe (.int i) (.str j) (.bool true) := by
  have := rd_ne (K := K) (a := .int i) (b := .str j) rfl rfl rfl
  simpa using this
theorem rd_eqSI {i : Int} {j : Str} : RD K rEq (.str j) (.int i) (.bool false) := by
  have := rd_eq (K := K) (a := .str j) (b := .int i) rfl rfl rfl
  simpa using this
theorem rd_neSI {i : Int} {j : Str} : RD K rNe (.str j) (.int i) (.bool true) := by
  have := rd_ne (K := K) (a := .str j) (b := .int i) rfl rfl rfl
  simpa using this
theorem rd_eqB {i j : Bool} : RD K rEq (.bool i) (.bool j) (.bool (decide (i = j))) := by
  have := rd_eq (K := K) (a := .bool i) (b := .bool j) rfl rfl rfl
  simpa using this
theorem rd_neB {i j : Bool} : RD K rNe (.bool i) (.bool j) (.bool (!decide (i = j))) := by
  have := rd_ne (K := K) (a := .bool i) (b := .bool j) rfl rfl rfl
  simpa using this
/-- subscripts -/
theorem atI_map {S : Hp} {xs : List V} {ds : List PyData} {i : Int} (h : DpAll K S xs ds) (e : atI ds i = some d) : ∃ v, atI xs i = some v ∧ Dp K S v d := by
  unfold atI at e ⊢
  rw [DpAll_len h]
  cases hj : ixN ds.length i with
  | none => rw [hj] at e; cases e
  | some j =>
    rw [hj] at e
    exact DpAll_get h e
theorem rd_ixT {ds : List PyData} {i : Int} (e : atI ds i = some d) : RD K (rIx K) (.tuple ds) (.int i) d := fun x y S H Q hs hx hy q => by
  cases hy
  cases hx with
  | tup h1 h2 =>
    obtain ⟨v, hv, hd⟩ := atI_map h2 e
    exact .inr (.inl ⟨_, _, i, v, rfl, rfl, same_seqT hs h1, hv, q v S H (Grow.refl hs) hd⟩)
theorem rd_ixL {ds : List PyData} {i : Int} (e : atI ds i = some d) : RD K (rIx K) (.list ds) (.int i) d := fun x y S H Q hs hx hy q => by
  cases hy
  cases hx with
  | lst h1 h2 =>
    obtain ⟨v, hv, hd⟩ := atI_map h2 e
    exact .inl ⟨_, _, i, v, rfl, rfl, hs.seq h1, hv, q v S H (Grow.refl hs) hd⟩
/-- in, not in: flat items -/
def flatD : PyData → Bool
  | .none => true
  | .bool _ => true
  | .int _ => true
  | .str _ => true
  | _ => false
def eqF : PyData → PyData → Bool
  | .none, .none => true
  | .bool a, .bool b => a == b
  | .bool a, .int b => (if a then 1 else 0) == b
  | .int a, .bool b => a == (if b then 1 else 0)
  | .int a, .int b => a == b
  | .str a, .str b => a == b
  | _, _ => false
def inF (x : PyData) (xs : List PyData) : Bool := xs.any fun y => eqF y x
theorem flat_dp {S : Hp} {v : V} (h : Dp K S v d) (f : flatD d = true) : flatV v = true := by
  cases h <;> first | rfl | cases f
theorem eqF_dp {S : Hp} {v w : V} (h : Dp K S v a) (h2 : Dp K S w b) (f : flatD a = true) (f2 : flatD b = true) : eqV v w = eqF a b := by
  cases h <;> first | (cases h2 <;> first | rfl | cases f2) | cases f
theorem flats_dp {S : Hp} : ∀ {vs : List V} {ds : List PyData}, DpAll K S vs ds → ds.all flatD = true → vs.all flatV = true
  | _, [], h, _ => by cases h; rfl
  | _, d :: ds, h, f => by
    cases h with
    | cons h1 h2 =>
      rw [List.all_cons, Bool.and_eq_true] at f ⊢
      exact ⟨flat_dp h1 f.1, flats_dp h2 f.2⟩
theorem in_dp {S : Hp} {v : V} (h : Dp K S v a) (f : flatD a = true) : ∀ {vs : List V} {ds : List PyData}, DpAll K S vs ds → ds.all flatD = true → inV v vs = inF a ds
  | _, [], h2, _ => by cases h2; rfl
  | _, d :: ds, h2, f2 => by
    cases h2 with
    | cons h3 h4 =>
      rw [List.all_cons, Bool.and_eq_true] at f2
      have ih := in_dp h f h4 f2.2
      unfold inV inF at ih ⊢
      rw [List.any_cons, List.any_cons, ih, eqF_dp h3 h f2.1 f]
theorem rd_inL {neg : Bool} {ds : List PyData} (f : flatD a = true) (fs : ds.all flatD = true) : RD K (rIn K neg) a (.list ds) (.bool (if neg then !inF a ds else inF a ds)) := fun x y S H Q hs hx hy q => by
  cases hy with
  | lst h1 h2 =>
    refine ⟨_, _, rfl, .inl (hs.seq h1), flat_dp hx f, flats_dp h2 fs, ?_⟩
    rw [in_dp hx f h2 fs]
    exact q _ S H (Grow.refl hs) (.bl _)
theorem rd_inT {neg : Bool} {ds : List PyData} (f : flatD a = true) (fs : ds.all flatD = true) : RD K (rIn K neg) a (.tuple ds) (.bool (if neg then !inF a ds else inF a ds)) := fun x y S H Q hs hx hy q => by
  cases hy with
  | tup h1 h2 =>
    refine ⟨_, _, rfl, .inr (same_seqT hs h1), flat_dp hx f, flats_dp h2 fs, ?_⟩
    rw [in_dp hx f h2 fs]
    exact q _ S H (Grow.refl hs) (.bl _)
theorem flat_ints : ∀ ns : List Int, (ns.map PyData.int).all flatD = true
  | [] => rfl
  | _ :: ns => by rw [List.map_cons, List.all_cons, flat_ints ns]; rfl
theorem inF_ints {i : Int} : ∀ ns : List Int, inF (.int i) (ns.map PyData.int) = decide (i ∈ ns)
  | [] => by simp [inF]
  | n :: ns => by
    have ih := inF_ints (i := i) ns
    unfold inF at ih ⊢
    rw [List.map_cons, List.any_cons, ih]
    by_cases h : n = i
    · subst h; simp [eqF]
    · have h' : ¬ i = n := fun e => h e.symm
      simp [eqF, h, h']
/-- len -/
theorem rc_lenL {ds : List PyData} : RCD K (rLenK K) [.list ds] (.int ds.length) := fun vs S H Q hs hx q => by
  cases hx with
  | cons h1 h2 =>
    cases h2
    cases h1 with
    | lst h3 h4 => exact ⟨_, _, rfl, .inl (hs.seq h3), q _ S H (Grow.refl hs) (by rw [DpAll_len h4]; exact .int _)⟩
theorem rc_lenT {ds : List PyData} : RCD K (rLenK K) [.tuple ds] (.int ds.length) := fun vs S H Q hs hx q => by
  cases hx with
  | cons h1 h2 =>
    cases h2
    cases h1 with
    | tup h3 h4 => exact ⟨_, _, rfl, .inr (same_seqT hs h3), q _ S H (Grow.refl hs) (by rw [DpAll_len h4]; exact .int _)⟩
/-- list(x), tuple(x) -/
theorem new_lst {S H : Hp} {xs : List V} {ds : List PyData} {Q : VK} (hs : Same S H) (h : DpAll K S xs ds) (q : ∀ v S' H', Grow m0 S H S' H' → Dp K S' v (.list ds) → Q v H') : ∀ p, H p = none → Q (.ref p) (upd H p (.lst xs)) := fun p hp =>
  have g2 : Grow m0 S H (upd S p (.lst xs)) (upd H p (.lst xs)) := Grow.new hs hp
  q _ _ _ g2 (.lst (.inl (.inl upd_same)) (DpAll_mono h g2.s))
theorem new_tup {S H : Hp} {xs : List V} {ds : List PyData} {Q : VK} (hs : Same S H) (h : DpAll K S xs ds) (q : ∀ v S' H', Grow m0 S H S' H' → Dp K S' v (.tuple ds) → Q v H') : ∀ p, H p = none → Q (.ref p) (upd H p (.tup xs)) := fun p hp =>
  have g2 : Grow m0 S H (upd S p (.tup xs)) (upd H p (.tup xs)) := Grow.new hs hp
  q _ _ _ g2 (.tup (.inl (.inl upd_same)) (DpAll_mono h g2.s))
theorem rc_listL {ds : List PyData} : RCD K (rListK K) [.list ds] (.list ds) := fun vs S H Q hs hx q => by
  cases hx with
  | cons h1 h2 =>
    cases h2
    cases h1 with
    | lst h3 h4 => exact ⟨_, _, rfl, .inl (hs.seq h3), new_lst hs h4 q⟩
theorem rc_listT {ds : List PyData} : RCD K (rListK K) [.tuple ds] (.list ds) := fun vs S H Q hs hx q => by
  cases hx with
  | cons h1 h2 =>
    cases h2
    cases h1 with
    | tup h3 h4 => exact ⟨_, _, rfl, .inr (same_seqT hs h3), new_lst hs h4 q⟩
theorem rc_tupleL {ds : List PyData} : RCD K (rTupleK K) [.list ds] (.tuple ds) := fun vs S H Q hs hx q => by
  cases hx with
  | cons h1 h2 =>
    cases h2
    cases h1 with
    | lst h3 h4 => exact ⟨_, _, rfl, .inl ⟨hs.seq h3, new_tup hs h4 q⟩⟩
theorem rc_tupleT {ds : List PyData} : RCD K (rTupleK K) [.tuple ds] (.tuple ds) := fun vs S H Q hs hx q => by
  cases hx with
  | cons h1 h2 =>
    cases h2
    cases h1 with
    | tup h3 h4 => exact ⟨_, _, rfl, .inr ⟨same_seqT hs h3, q _ S H (Grow.refl hs) (.tup h3 h4)⟩⟩
/-- abs, max, min, sum, any, all, sorted -/
theorem rc_abs {i : Int} : RCD K (fun xs H Q => ∃ i, xs = [.int i] ∧ Q (.int (if i < 0 then -i else i)) H) [.int i] (.int (if i < 0 then -i else i)) := fun vs S H Q hs hx q => by
  cases hx with
  | cons h1 h2 => cases h2; cases h1; exact ⟨i, rfl, q _ S H (Grow.refl hs) (.int _)⟩
theorem rc_sum {ns : List Int} : RCD K (rSum K) [.list (ns.map .int)] (.int ns.sum) := fun vs S H Q hs hx q => by
  cases hx with
  | cons h1 h2 =>
    cases h2
    cases h1 with
    | lst h3 h4 =>
      rw [ints_of h4] at h3
      exact ⟨_, ns, rfl, hs.seq h3, q _ S H (Grow.refl hs) (.int _)⟩
/-- the greatest, the least of a row (0 of none) -/
def maxI : List Int → Int
  | [] => 0
  | [x] => x
  | x :: y :: r => max x (maxI (y :: r))
def minI : List Int → Int
  | [] => 0
  | [x] => x
  | x :: y :: r => min x (minI (y :: r))
theorem maxI_mem : ∀ {ns : List Int}, ns ≠ [] → maxI ns ∈ ns
  | [], h => absurd rfl h
  | [x], _ => by simp [maxI]
  | x :: y :: r, _ => by
    have ih : maxI (y :: r) ∈ y :: r := maxI_mem (by simp)
    unfold maxI
    rcases Int.le_total x (maxI (y :: r)) with h | h
    · rw [Int.max_eq_right h]; exact List.mem_cons_of_mem _ ih
    · rw [Int.max_eq_left h]; exact List.mem_cons_self
theorem maxI_ge : ∀ {ns : List Int} {x : Int}, x ∈ ns → x ≤ maxI ns
  | [], _, h => by simp at h
  | [y], x, h => by simp at h; subst h; simp [maxI]
  | y :: z :: r, x, h => by
    unfold maxI
    rcases List.mem_cons.mp h with h | h
    · subst h; exact Int.le_max_left _ _
    · exact Int.le_trans (maxI_ge h) (Int.le_max_right _ _)
theorem minI_mem : ∀ {ns : List Int}, ns ≠ [] → minI ns ∈ ns
  | [], h => absurd rfl h
  | [x], _ => by simp [minI]
  | x :: y :: r, _ => by
    have ih : minI (y :: r) ∈ y :: r := minI_mem (by simp)
    unfold minI
    rcases Int.le_total x (minI (y :: r)) with h | h
    · rw [Int.min_eq_left h]; exact List.mem_cons_self
    · rw [Int.min_eq_right h]; exact List.mem_cons_of_mem _ ih
theorem minI_le : ∀ {ns : List Int} {x : Int}, x ∈ ns → minI ns ≤ x
  | [], _, h => by simp at h
  | [y], x, h => by simp at h; subst h; simp [minI]
  | y :: z :: r, x, h => by
    unfold minI
    rcases List.mem_cons.mp h with h | h
    · subst h; exact Int.min_le_left _ _
    · exact Int.le_trans (Int.min_le_right _ _) (minI_le h)
theorem maxI_is {ns : List Int} {m : Int} (h : m ∈ ns) (k : ∀ y ∈ ns, y ≤ m) : maxI ns = m :=
  Int.le_antisymm (k _ (maxI_mem (List.ne_nil_of_mem h))) (maxI_ge h)
theorem minI_is {ns : List Int} {m : Int} (h : m ∈ ns) (k : ∀ y ∈ ns, m ≤ y) : minI ns = m :=
  Int.le_antisymm (minI_le h) (k _ (minI_mem (List.ne_nil_of_mem h)))
theorem rc_max {ns : List Int} (h0 : ns ≠ []) : RCD K (rMax K) [.list (ns.map .int)] (.int (maxI ns)) := fun vs S H Q hs hx q => by
  cases hx with
  | cons h1 h2 =>
    cases h2
    cases h1 with
    | lst h3 h4 =>
      rw [ints_of h4] at h3
      exact ⟨_, ns, rfl, hs.seq h3, List.length_pos_iff.mpr h0, fun m hm hk => q _ S H (Grow.refl hs) (by rw [maxI_is hm hk]; exact .int _)⟩
theorem rc_min {ns : List Int} (h0 : ns ≠ []) : RCD K (rMin K) [.list (ns.map .int)] (.int (minI ns)) := fun vs S H Q hs hx q => by
  cases hx with
  | cons h1 h2 =>
    cases h2
    cases h1 with
    | lst h3 h4 =>
      rw [ints_of h4] at h3
      exact ⟨_, ns, rfl, hs.seq h3, List.length_pos_iff.mpr h0, fun m hm hk => q _ S H (Grow.refl hs) (by rw [minI_is hm hk]; exact .int _)⟩
theorem rc_all {bs : List Bool} : RCD K (rAll K) [.list (bs.map .bool)] (.bool (bs.all id)) := fun vs S H Q hs hx q => by
  cases hx with
  | cons h1 h2 =>
    cases h2
    cases h1 with
    | lst h3 h4 =>
      rw [bools_of h4] at h3
      exact ⟨_, bs, rfl, hs.seq h3, q _ S H (Grow.refl hs) (.bl _)⟩
theorem rc_any {bs : List Bool} : RCD K (rAny K) [.list (bs.map .bool)] (.bool (bs.any id)) := fun vs S H Q hs hx q => by
  cases hx with
  | cons h1 h2 =>
    cases h2
    cases h1 with
    | lst h3 h4 =>
      rw [bools_of h4] at h3
      exact ⟨_, bs, rfl, hs.seq h3, q _ S H (Grow.refl hs) (.bl _)⟩
/-- slices -/
def cutD (xs : List PyData) (lo hi : Option Int) : List PyData := (xs.drop (HT.sIx xs.length 0 lo)).take (HT.sIx xs.length xs.length hi - HT.sIx xs.length 0 lo)
theorem cut_dp {S : Hp} {vs : List V} {ds : List PyData} (h : DpAll K S vs ds) (lo hi : Option Int) : DpAll K S (cutV vs lo hi) (cutD ds lo hi) := by
  unfold cutV cutD
  rw [DpAll_len h]
  exact DpAll_take _ (DpAll_drop _ h)
theorem eo_none : EvO K tNoPart l none := fun H0 S H s e hs Q q => q S H (Grow.refl hs)
theorem eo_some {i : Int} (h : Ev K te l (.int i)) : EvO K (tPart te) l (some i) := fun H0 S H s e hs Q q =>
  h H0 S H s e hs _ fun v S1 H1 g1 d1 => by cases d1; exact ⟨i, rfl, q S1 H1 g1⟩
/-- a slice of a list or a tuple -/
def rSlAny (K : PySem.W.Frag) : V → Option Int → Option Int → Hp → VK → Prop := fun x lo hi H Q => rSlL K x lo hi H Q ∨ rSlA K x lo hi H Q
theorem ev_slL {tl th : TO} {lo hi : Option Int} {ds : List PyData} (h : Ev K te l (.list ds)) (h1 : EvO K tl l lo) (h2 : EvO K th l hi) : Ev K (tSl (rSlAny K) te tl th) l (.list (cutD ds lo hi)) := fun H0 S H s e hs Q q =>
  h H0 S H s e hs _ fun v S1 H1 g1 d1 => h1 H0 S1 H1 s (e.grow g1) g1.f _ fun S2 H2 g2 => h2 H0 S2 H2 s (e.grow (g1.trans g2)) g2.f _ fun S3 H3 g3 => by
    cases Dp_mono d1 (g2.s.trans g3.s) with
    | lst h3 h4 => exact .inl ⟨_, _, rfl, g3.f.seq h3, new_lst g3.f (cut_dp h4 lo hi) fun v S' H' g d => q v S' H' (((g1.trans g2).trans g3).trans g) d⟩
theorem ev_slT {tl th : TO} {lo hi : Option Int} {ds : List PyData} (h : Ev K te l (.tuple ds)) (h1 : EvO K tl l lo) (h2 : EvO K th l hi) : Ev K (tSl (rSlAny K) te tl th) l (.tuple (cutD ds lo hi)) := fun H0 S H s e hs Q q =>
  h H0 S H s e hs _ fun v S1 H1 g1 d1 => h1 H0 S1 H1 s (e.grow g1) g1.f _ fun S2 H2 g2 => h2 H0 S2 H2 s (e.grow (g1.trans g2)) g2.f _ fun S3 H3 g3 => by
    cases Dp_mono d1 (g2.s.trans g3.s) with
    | @tup a xs _ h3 h4 =>
      refine .inr ⟨_, _, rfl, same_seqT g3.f h3, fun hw => q _ S3 H3 ((g1.trans g2).trans g3) ?_, fun _ => new_tup g3.f (cut_dp h4 lo hi) fun v S' H' g d => q v S' H' (((g1.trans g2).trans g3).trans g) d⟩
      have hl := DpAll_len h4
      rw [hl] at hw
      have ec : cutD ds lo hi = ds := by
        unfold cutD
        rw [hw.1, hw.2]
        simp
      rw [ec]
      exact .tup h3 h4
end
end Dz

namespace Dz
open PySem L2 RZ

/-! ### walks -/
structure WalkD (K : PySem.W.Frag) (J : It) (S : Hp) (ds : List PyData) : Prop where
  go : ∀ i H, i < ds.length → Same S H → J.go i H
  stop : ∀ H, Same S H → J.stop ds.length H
  yld : ∀ i H x H' d S2, ds[i]? = some d → Same S S2 → Same S2 H → J.yld i H x H' → ∃ S', Grow m0 S2 H S' H' ∧ Dp K S' x d
def EvI (K : PySem.W.Frag) (wi : TI) (l : List Sl) (ds : List PyData) : Prop := ∀ H0 S H s, Env K H0 S H s l → Same S H → ∀ R : It → Hp → Prop, (∀ J S' H', Grow m0 S H S' H' → WalkD K J S' ds → R J H') → wi s H R
theorem PI_or {X : Cx} {tg e : Expr} {w1 w2 : TI} (h1 : PI X tg e w1) (h2 : PI X tg e w2) : PI X tg e (fun s H R => w1 s H R ∨ w2 s H R) :=
  ⟨fun pins s σ H R I h => h.elim (fun q => h1.run pins s σ H R I q) fun q => h2.run pins s σ H R I q⟩
def iSeq (K : PySem.W.Frag) (tl : TE) : TI := fun s H R => iList K tl s H R ∨ iTup K tl s H R
theorem pi_seq {X : Cx} {tg e : Expr} {tl : TE} (h : PE X e tl) : PI X tg e (iSeq X.K tl) := PI_or (pi_list h) (pi_tup h)
section
variable {K : PySem.W.Frag} {l l' : List Sl} {ta tb te : TE} {t u : TT} {a b c d : PyData} {r : R2} {ds : List PyData}
theorem walkL {S : Hp} {p : Addr} {xs : List V} (h : SqL K S p xs) (hd : DpAll K S xs ds) : WalkD K (Itl K p) S ds := by
  have w := walk_list (K := K) (a := p) (xs := xs)
  rw [DpAll_len hd] at w
  refine ⟨fun i H hi hs => w.goes i H hi (hs.seq h), fun H hs => w.stops H (hs.seq h), fun i H x H' d S2 e s1 s2 y => ?_⟩
  have hi : i < ds.length := (List.getElem?_eq_some_iff.mp e).1
  obtain ⟨rfl, q⟩ := w.yields i H x H' hi ((s1.trans s2).seq h) y
  obtain ⟨v, hv, hdv⟩ := DpAll_get hd e
  rw [hv] at q
  cases q
  exact ⟨S2, Grow.refl s2, Dp_mono hdv s1⟩
theorem walkT {S : Hp} {p : Addr} {xs : List V} (h : SqT K S p xs) (hd : DpAll K S xs ds) : WalkD K (Itt K p) S ds := by
  have w := walk_tup (K := K) (a := p) (xs := xs)
  rw [DpAll_len hd] at w
  refine ⟨fun i H hi hs => w.goes i H hi (same_seqT hs h), fun H hs => w.stops H (same_seqT hs h), fun i H x H' d S2 e s1 s2 y => ?_⟩
  have hi : i < ds.length := (List.getElem?_eq_some_iff.mp e).1
  obtain ⟨rfl, q⟩ := w.yields i H x H' hi (same_seqT (s1.trans s2) h) y
  obtain ⟨v, hv, hdv⟩ := DpAll_get hd e
  rw [hv] at q
  cases q
  exact ⟨S2, Grow.refl s2, Dp_mono hdv s1⟩
theorem ei_list (h : Ev K te l (.list ds)) : EvI K (iSeq K te) l ds := fun H0 S H s e hs R q =>
  .inl (h H0 S H s e hs _ fun v S1 H1 g1 d1 => by
    cases d1 with
    | lst h1 h2 => exact ⟨_, rfl, ⟨_, g1.f.seq h1⟩, q _ S1 H1 g1 (walkL h1 h2)⟩)
theorem ei_tup (h : Ev K te l (.tuple ds)) : EvI K (iSeq K te) l ds := fun H0 S H s e hs R q =>
  .inr (h H0 S H s e hs _ fun v S1 H1 g1 d1 => by
    cases d1 with
    | tup h1 h2 => exact ⟨_, rfl, ⟨_, same_seqT g1.f h1⟩, q _ S1 H1 g1 (walkT h1 h2)⟩)
/-- lo, lo + 1, .. : n of them -/
def rng (lo : Int) (n : Nat) : List PyData := (List.range n).map fun (i : Nat) => PyData.int (lo + (i : Int))
theorem rng_len (lo : Int) (n : Nat) : (rng lo n).length = n := by simp [rng]
theorem rng_get {lo : Int} {n i : Nat} {d : PyData} (h : (rng lo n)[i]? = some d) : i < n ∧ d = .int (lo + i) := by
  unfold rng at h
  rw [List.getElem?_map] at h
  by_cases hi : i < n
  · rw [List.getElem?_range hi] at h
    exact ⟨hi, (Option.some.inj h).symm⟩
  · rw [List.getElem?_eq_none (by simpa using hi)] at h
    cases h
theorem walkR {S : Hp} {lo : Int} {n : Nat} : WalkD K (Itr lo n) S (rng lo n) := by
  have w := walk_range (lo := lo) (n := n)
  refine ⟨fun i H hi _ => w.goes i H (by rwa [rng_len] at hi) trivial, fun H _ => by rw [rng_len]; exact w.stops H trivial, fun i H x H' d S2 e s1 s2 y => ?_⟩
  obtain ⟨hi, rfl⟩ := rng_get e
  obtain ⟨rfl, rfl⟩ := w.yields i H x H' hi trivial y
  exact ⟨S2, Grow.refl s2, .int _⟩
theorem ei_rng1 {n : Int} (h : Ev K te l (.int n)) (hn : n ≤ 100000) (h0 : -100000 ≤ n) : EvI K (iRng1 (tCons te tNil)) l (rng 0 n.toNat) := fun H0 S H s e hs R q =>
  h H0 S H s e hs _ fun v S1 H1 g1 d1 => by
    cases d1
    exact ⟨n, rfl, by omega, by omega, q _ S1 H1 g1 walkR⟩
theorem ei_rng2 {m n : Int} (h1 : Ev K ta l (.int m)) (h : Ev K te l (.int n)) (hn : m ≤ 100000 ∧ -100000 ≤ m ∧ n ≤ 100000 ∧ -100000 ≤ n) : EvI K (iRng2 (tCons ta (tCons te tNil))) l (rng m (n - m).toNat) := fun H0 S H s e hs R q =>
  h1 H0 S H s e hs _ fun v S1 H1 g1 d1 => h H0 S1 H1 s (e.grow g1) g1.f _ fun w S2 H2 g2 d2 => by
    cases d1
    cases d2
    exact ⟨m, n, rfl, ⟨by omega, by omega, by omega, by omega⟩, q _ S2 H2 (g1.trans g2) walkR⟩
/-- pairs -/
def prs (f g : Nat → PyData) (n : Nat) : List PyData := (List.range n).map fun i => PyData.tuple [f i, g i]
theorem dp_pair {S H H' : Hp} {T : Addr} {x y : V} (hs : Same S H) (hn : H T = none) (e : H' = upd H T (.tup [x, y])) (h1 : Dp K S x a) (h2 : Dp K S y b) : ∃ S', Grow m0 S H S' H' ∧ Dp K S' (.ref T) (.tuple [a, b]) := by
  subst e
  have g : Grow m0 S H (upd S T (.tup [x, y])) (upd H T (.tup [x, y])) := Grow.new hs hn
  exact ⟨_, g, .tup (.inl (.inl upd_same)) (.cons (Dp_mono h1 g.s) (.cons (Dp_mono h2 g.s) .nil))⟩
def enumD (ds : List PyData) : List PyData := (List.range ds.length).zipWith (fun i d => PyData.tuple [.int (i : Nat), d]) ds
theorem enumD_len (ds : List PyData) : (enumD ds).length = ds.length := by simp [enumD]
theorem enumD_get {i : Nat} {d : PyData} (h : (enumD ds)[i]? = some d) : ∃ e, ds[i]? = some e ∧ d = .tuple [.int (i : Nat), e] := by
  have hl := (List.getElem?_eq_some_iff.mp h).1
  rw [enumD_len] at hl
  unfold enumD at h
  rw [List.getElem?_zipWith, List.getElem?_range hl, List.getElem?_eq_getElem hl] at h
  exact ⟨ds[i], List.getElem?_eq_getElem hl, (Option.some.inj h).symm⟩
theorem walkE {S : Hp} {p : Addr} {xs : List V} (h : SqL K S p xs) (hd : DpAll K S xs ds) : WalkD K (Ite K p) S (enumD ds) := by
  have w := walk_enum (K := K) (a := p) (xs := xs)
  rw [DpAll_len hd] at w
  refine ⟨fun i H hi hs => w.goes i H (by rwa [enumD_len] at hi) (hs.seq h), fun H hs => by rw [enumD_len]; exact w.stops H (hs.seq h), fun i H x H' d S2 e s1 s2 y => ?_⟩
  obtain ⟨e', he, rfl⟩ := enumD_get e
  have hi : i < ds.length := (List.getElem?_eq_some_iff.mp he).1
  obtain ⟨T, x1, y1, rfl, hn, e2, q1, q2⟩ := w.yields i H x H' hi ((s1.trans s2).seq h) y
  obtain ⟨v, hv, hdv⟩ := DpAll_get hd he
  cases q1
  have q3 : xs[i]? = some y1 := q2
  rw [hv] at q3
  cases q3
  exact dp_pair s2 hn e2 (.int _) (Dp_mono hdv s1)
theorem ei_enum (h : Ev K te l (.list ds)) : EvI K (iEnum K (tCons te tNil)) l (enumD ds) := fun H0 S H s e hs R q =>
  h H0 S H s e hs _ fun v S1 H1 g1 d1 => by
    cases d1 with
    | lst h1 h2 => exact ⟨_, _, rfl, g1.f.seq h1, q _ S1 H1 g1 (walkE h1 h2)⟩
def zipD (ds es : List PyData) : List PyData := ds.zipWith (fun d e => PyData.tuple [d, e]) es
theorem zipD_get {es : List PyData} {i : Nat} {d : PyData} (h : (zipD ds es)[i]? = some d) : ∃ x y, ds[i]? = some x ∧ es[i]? = some y ∧ d = .tuple [x, y] := by
  unfold zipD at h
  rw [List.getElem?_zipWith] at h
  cases h1 : ds[i]? with
  | none => rw [h1] at h; cases h
  | some x =>
    cases h2 : es[i]? with
    | none => rw [h1, h2] at h; cases h
    | some y => rw [h1, h2] at h; exact ⟨x, y, rfl, rfl, (Option.some.inj h).symm⟩
theorem walkZT {S : Hp} {p p2 : Addr} {xs ys : List V} {es : List PyData} (h : SqT K S p xs) (hd : DpAll K S xs ds) (h' : SqT K S p2 ys) (hd' : DpAll K S ys es) : WalkD K (ItzT K p p2) S (zipD ds es) := by
  have l1 := DpAll_len hd
  have l2 := DpAll_len hd'
  have lz : (zipD ds es).length = min ds.length es.length := by simp [zipD]
  refine ⟨fun i H hi hs => ?_, fun H hs => ?_, fun i H x H' d S2 e s1 s2 y => ?_⟩
  · have h1 : i < xs.length := by omega
    have h2 : i < ys.length := by omega
    exact ⟨xs, ys, xs[i], ys[i], same_seqT hs h, same_seqT hs h', List.getElem?_eq_getElem h1, List.getElem?_eq_getElem h2⟩
  · exact ⟨xs, ys, same_seqT hs h, same_seqT hs h', by omega⟩
  · obtain ⟨a', b', ha, hb, rfl⟩ := zipD_get e
    obtain ⟨T, x1, y1, rfl, hn, e2, q1, q2⟩ := y
    obtain ⟨v, hv, hdv⟩ := DpAll_get hd ha
    obtain ⟨w, hw, hdw⟩ := DpAll_get hd' hb
    have e3 := q1 xs (same_seqT (s1.trans s2) h)
    have e4 := q2 ys (same_seqT (s1.trans s2) h')
    rw [hv] at e3
    rw [hw] at e4
    cases e3
    cases e4
    exact dp_pair s2 hn e2 (Dp_mono hdv s1) (Dp_mono hdw s1)
theorem walkZL {S : Hp} {p p2 : Addr} {xs ys : List V} {es : List PyData} (h : SqL K S p xs) (hd : DpAll K S xs ds) (h' : SqL K S p2 ys) (hd' : DpAll K S ys es) : WalkD K (Itz K p p2) S (zipD ds es) := by
  have l1 := DpAll_len hd
  have l2 := DpAll_len hd'
  have lz : (zipD ds es).length = min ds.length es.length := by simp [zipD]
  refine ⟨fun i H hi hs => ?_, fun H hs => ?_, fun i H x H' d S2 e s1 s2 y => ?_⟩
  · have h1 : i < xs.length := by omega
    have h2 : i < ys.length := by omega
    exact ⟨xs, ys, xs[i], ys[i], hs.seq h, hs.seq h', List.getElem?_eq_getElem h1, List.getElem?_eq_getElem h2⟩
  · exact ⟨xs, ys, hs.seq h, hs.seq h', by omega⟩
  · obtain ⟨a', b', ha, hb, rfl⟩ := zipD_get e
    obtain ⟨T, x1, y1, rfl, hn, e2, q1, q2⟩ := y
    obtain ⟨v, hv, hdv⟩ := DpAll_get hd ha
    obtain ⟨w, hw, hdw⟩ := DpAll_get hd' hb
    have e3 := q1 xs ((s1.trans s2).seq h)
    have e4 := q2 ys ((s1.trans s2).seq h')
    rw [hv] at e3
    rw [hw] at e4
    cases e3
    cases e4
    exact dp_pair s2 hn e2 (Dp_mono hdv s1) (Dp_mono hdw s1)
theorem ei_zipT {es : List PyData} (h : Ev K ta l (.tuple ds)) (h' : Ev K te l (.tuple es)) : EvI K (iZipA K (tCons ta (tCons te tNil))) l (zipD ds es) := fun H0 S H s e hs R q =>
  h H0 S H s e hs _ fun v S1 H1 g1 d1 => h' H0 S1 H1 s (e.grow g1) g1.f _ fun w S2 H2 g2 d2 => by
    cases Dp_mono d1 g2.s with
    | tup h1 h2 =>
      cases d2 with
      | tup h3 h4 => exact ⟨_, _, _, _, rfl, .inr ⟨same_seqT g2.f h1, same_seqT g2.f h3, q _ S2 H2 (g1.trans g2) (walkZT h1 h2 h3 h4)⟩⟩
theorem ei_zipL {es : List PyData} (h : Ev K ta l (.list ds)) (h' : Ev K te l (.list es)) : EvI K (iZipA K (tCons ta (tCons te tNil))) l (zipD ds es) := fun H0 S H s e hs R q =>
  h H0 S H s e hs _ fun v S1 H1 g1 d1 => h' H0 S1 H1 s (e.grow g1) g1.f _ fun w S2 H2 g2 d2 => by
    cases Dp_mono d1 g2.s with
    | lst h1 h2 =>
      cases d2 with
      | lst h3 h4 => exact ⟨_, _, _, _, rfl, .inl ⟨g2.f.seq h1, g2.f.seq h3, q _ S2 H2 (g1.trans g2) (walkZL h1 h2 h3 h4)⟩⟩

/-! ### targets -/
def Bd (K : PySem.W.Frag) (g : TG) (l : List Sl) (d : PyData) (l' : List Sl) : Prop := ∀ H0 S H s v (Q : L2.St → Hp → Prop), Env K H0 S H s l → Same S H → Dp K S v d → (∀ s', Env K H0 S H s' l' → Q s' H) → g v s H Q
def Bds (K : PySem.W.Frag) (g : TGs) (l : List Sl) (ds : List PyData) (l' : List Sl) : Prop := ∀ H0 S H s vs (Q : L2.St → Hp → Prop), Env K H0 S H s l → Same S H → DpAll K S vs ds → (∀ s', Env K H0 S H s' l' → Q s' H) → g vs s H Q
theorem bd_name {i : Nat} : Bd K (gName i) l d (l.set i (.dat d)) := fun H0 S H s v Q e hs hd q => q _ (e.dat hd)
theorem bds_nil : Bds K gNil l [] l := fun H0 S H s v Q e hs hd q => by cases hd; exact ⟨rfl, q s e⟩
theorem bds_cons {g : TG} {gs : TGs} {l1 l2 : List Sl} (h1 : Bd K g l d l1) (h2 : Bds K gs l1 ds l2) : Bds K (gCons g gs) l (d :: ds) l2 := fun H0 S H s vs Q e hs hd q => by
  cases hd with
  | cons a b => exact ⟨_, _, rfl, h1 H0 S H s _ _ e hs a fun s' e' => h2 H0 S H s' _ _ e' hs b q⟩
theorem bd_tup {gs : TGs} {n : Nat} (h : Bds K gs l ds l') (hn : ds.length = n) : Bd K (gTup K n gs) l (.tuple ds) l' := fun H0 S H s v Q e hs hd q => by
  cases hd with
  | tup a b => exact ⟨_, _, rfl, same_seqT hs a, (DpAll_len b).trans hn, h H0 S H s _ _ e hs b q⟩
/-- the target's names are among vs -/
def GIn (g : TG) (vs : List Nat) : Prop := ∀ v s H (Q : L2.St → Hp → Prop), g v s H Q → g v s H fun s' H' => wipe s' vs = wipe s vs ∧ Q s' H'
def GIns (g : TGs) (vs : List Nat) : Prop := ∀ v s H (Q : L2.St → Hp → Prop), g v s H Q → g v s H fun s' H' => wipe s' vs = wipe s vs ∧ Q s' H'
theorem wipe_get {s : L2.St} {j : Nat} : ∀ {vs : List Nat}, (wipe s vs)[j]? = if j ∈ vs then (if j < s.length then some none else none) else s[j]?
  | [] => by simp [wipe]
  | v :: vs => by
    unfold wipe
    rw [List.getElem?_set]
    by_cases h : v = j
    · subst h
      rw [if_pos rfl, wipe_length, if_pos List.mem_cons_self]
    · rw [if_neg h, wipe_get]
      have : (j ∈ v :: vs) ↔ j ∈ vs := by
        rw [List.mem_cons]
        exact ⟨fun z => z.elim (fun q => absurd q.symm h) id, .inr⟩
      by_cases hj : j ∈ vs
      · rw [if_pos hj, if_pos (this.mpr hj)]
      · rw [if_neg hj, if_neg fun z => hj (this.mp z)]
theorem wipe_set {s : L2.St} {i : Nat} {x : Option V} {vs : List Nat} (h : i ∈ vs) : wipe (s.set i x) vs = wipe s vs := by
  apply List.ext_getElem?
  intro j
  rw [wipe_get, wipe_get, List.length_set]
  by_cases hj : j ∈ vs
  · rw [if_pos hj, if_pos hj]
  · rw [if_neg hj, if_neg hj, List.getElem?_set_ne fun (e : i = j) => hj (e ▸ h)]
theorem gin_name {i : Nat} {vs : List Nat} (h : i ∈ vs) : GIn (gName i) vs := fun v s H Q q => ⟨wipe_set h, q⟩
theorem gins_nil {vs : List Nat} : GIns gNil vs := fun v s H Q q => ⟨q.1, rfl, q.2⟩
theorem gins_cons {g : TG} {gs : TGs} {vs : List Nat} (h1 : GIn g vs) (h2 : GIns gs vs) (mono : ∀ v s H (Q Q' : L2.St → Hp → Prop), (∀ s' H', Q s' H' → Q' s' H') → g v s H Q → g v s H Q') : GIns (gCons g gs) vs := fun v s H Q ⟨x, r, e, q⟩ =>
  ⟨x, r, e, mono _ _ _ _ _ (fun s' H' ⟨w, k⟩ => by
    have := h2 r s' H' Q k
    rw [w] at this
    exact this) (h1 x s H _ q)⟩
theorem gin_tup {gs : TGs} {n : Nat} {vs : List Nat} (h : GIns gs vs) : GIn (gTup K n gs) vs := fun v s H Q ⟨a, xs, e, h1, h2, q⟩ => ⟨a, xs, e, h1, h2, h xs s H Q q⟩
theorem gmono_name {i : Nat} : ∀ v s H (Q Q' : L2.St → Hp → Prop), (∀ s' H', Q s' H' → Q' s' H') → gName i v s H Q → gName i v s H Q' := fun v s H Q Q' f q => f _ _ q
theorem gmonos_nil : ∀ v s H (Q Q' : L2.St → Hp → Prop), (∀ s' H', Q s' H' → Q' s' H') → gNil v s H Q → gNil v s H Q' := fun v s H Q Q' f q => ⟨q.1, f _ _ q.2⟩
theorem gmonos_cons {g : TG} {gs : TGs} (h1 : ∀ v s H (Q Q' : L2.St → Hp → Prop), (∀ s' H', Q s' H' → Q' s' H') → g v s H Q → g v s H Q') (h2 : ∀ v s H (Q Q' : L2.St → Hp → Prop), (∀ s' H', Q s' H' → Q' s' H') → gs v s H Q → gs v s H Q') :
    ∀ v s H (Q Q' : L2.St → Hp → Prop), (∀ s' H', Q s' H' → Q' s' H') → gCons g gs v s H Q → gCons g gs v s H Q' := fun v s H Q Q' f ⟨x, r, e, q⟩ => ⟨x, r, e, h1 _ _ _ _ _ (fun s' H' k => h2 _ _ _ _ _ f k) q⟩
theorem gmono_tup {gs : TGs} {n : Nat} (h2 : ∀ v s H (Q Q' : L2.St → Hp → Prop), (∀ s' H', Q s' H' → Q' s' H') → gs v s H Q → gs v s H Q') :
    ∀ v s H (Q Q' : L2.St → Hp → Prop), (∀ s' H', Q s' H' → Q' s' H') → gTup K n gs v s H Q → gTup K n gs v s H Q' := fun v s H Q Q' f ⟨a, xs, e, e1, e2, q⟩ => ⟨a, xs, e, e1, e2, h2 _ _ _ _ _ f q⟩
def wipeL (l : List Sl) : List Nat → List Sl
  | [] => l
  | v :: vs => (wipeL l vs).set v .no
theorem Env.wipe {H0 S H : Hp} {s : L2.St} (h : Env K H0 S H s l) : ∀ vs : List Nat, Env K H0 S H (L2.wipe s vs) (wipeL l vs)
  | [] => h
  | v :: vs => (Env.wipe h vs).forget
/-! ### comprehensions -/
section
variable {m : Addr → Prop} {S H S1 H1 S2 H2 : Hp} {p : Addr} {o : HO}
theorem Grow.putNew (g : Grow m S H S1 H1) (hp : H p = none) (hs : S1 p = none) (hx : H1 p ≠ none) : Grow m S H S1 (upd H1 p o) :=
  ⟨g.s, fun b x e => by rw [upd_ne (ne_of_none e hs)]; exact g.f b x e, g.n, fun a u hm e => by rw [upd_ne (ne_of_none e hp)]; exact g.k a u hm e, fun a e => by
    by_cases z : a = p
    · subst z; rw [upd_same]; exact fun q => nomatch q
    · rw [upd_ne z]; exact g.d a e⟩
theorem Grow.take (g : Grow m S H S1 H1) (hp : H p = none) (hx : H1 p = some o) (hs : S1 p = none) : Grow m S H (upd S1 p o) H1 :=
  ⟨g.s.trans (same_up hs), fun b x e => by
    by_cases z : b = p
    · subst z; rw [upd_same] at e; rw [hx]; exact e
    · rw [upd_ne z] at e; exact g.f b x e, fun a e q => by
    have : a ≠ p := fun z => by subst z; exact q hp
    rw [upd_ne this]; exact g.n a e q, g.k, g.d⟩
end
theorem filter_take_succ {α : Type} {xs : List α} {q : α → Bool} {i : Nat} {x : α} (h : xs[i]? = some x) : (xs.take (i + 1)).filter q = (xs.take i).filter q ++ (if q x then [x] else []) := by
  rw [List.take_add_one, h, List.filter_append]
  by_cases hq : q x
  · simp [hq]
  · simp [hq]
/-- a comprehension; the new list is nobody's yet -/
theorem ev_lcN {α : Type} {xs : List α} {h : α → PyData} {wi : TI} {g : TG} {tt : TT} {vs : List Nat} {q : α → Bool} {f : α → PyData} {lb : α → List Sl} (hi : EvI K wi l (xs.map h)) (hg : GIn g vs)
    (hm : ∀ v s H (Q Q' : L2.St → Hp → Prop), (∀ s' H', Q s' H' → Q' s' H') → g v s H Q → g v s H Q')
    (hb : ∀ x ∈ xs, Bd K g (wipeL l vs) (h x) (lb x)) (ht : ∀ x ∈ xs, EvT K tt (lb x) (q x)) (he : ∀ x ∈ xs, q x = true → Ev K te (lb x) (f x)) (hz : xs.length ≤ 100000)
    {H0 S H : Hp} {s : L2.St} (e : Env K H0 S H s l) (hs : Same S H) (Q : VK) (k : ∀ D S' H' vs, Grow m0 S H S' H' → H D = none → S' D = none → H' D = some (.lst vs) → DpAll K S' vs ((xs.filter q).map f) → Q (.ref D) H') : tLc wi g tt te vs s H Q := by
  refine hi H0 S H s e hs _ fun J S1 H1 g1 w => ?_
  have hlen : (xs.map h).length = xs.length := List.length_map _
  intro D hD
  have hDH : H D = none := g1.all.free hD
  refine ⟨fun i m H2 => m = xs.length - i ∧ i ≤ xs.length ∧ ∃ S' acc, Grow m0 S1 H1 S' H2 ∧ S' D = none ∧ H2 D = some (.lst acc) ∧ DpAll K S' acc (((xs.take i).filter q).map f),
    ⟨xs.length, by simp, Nat.zero_le _, S1, [], Grow.out g1.f hD, g1.f.free hD, upd_same, .nil⟩, ?_⟩
  rintro i m H2 ⟨rfl, hi', S', acc, g2, sD, hD2, hacc⟩
  by_cases hlt : i < xs.length
  · refine .inr ⟨w.go i H2 (by omega) (g2.s.trans g2.f), fun H3 => i + 1 ≤ xs.length ∧ ∃ S' acc, Grow m0 S1 H1 S' H3 ∧ S' D = none ∧ H3 D = some (.lst acc) ∧ DpAll K S' acc (((xs.take (i + 1)).filter q).map f), fun H3 ⟨a, b⟩ => ⟨xs.length - (i + 1), by omega, rfl, a, b⟩, fun x H3 y => ?_⟩
    have hd0 : xs[i]? = some xs[i] := List.getElem?_eq_getElem hlt
    have hd : (xs.map h)[i]? = some (h xs[i]) := by rw [List.getElem?_map, hd0]; rfl
    have hmem : xs[i] ∈ xs := List.getElem_mem hlt
    obtain ⟨S3, g3, d3⟩ := w.yld i H2 x H3 (h xs[i]) S' hd g2.s g2.f y
    have sD3 : S3 D = none := g3.n D sD (some_ne hD2)
    have hD3 : H3 D = some (.lst acc) := g3.all D _ hD2
    have g13 : Grow m0 S H S3 H3 := (g1.trans g2).trans g3
    have e3 : Env K H0 S3 H3 (wipe s vs) (wipeL l vs) := Env.wipe (e.grow g13) vs
    have bnd := hb xs[i] hmem H0 S3 H3 (wipe s vs) x (fun s' H' => H' = H3 ∧ Env K H0 S3 H3 s' (lb xs[i])) e3 g3.f d3 fun s' e' => ⟨rfl, e'⟩
    refine hm _ _ _ _ _ ?_ (hg x (wipe s vs) H3 _ bnd)
    rintro s2 H4 ⟨hw, rfl, e4⟩
    have hw' : wipe s2 vs = wipe s vs := by
      rw [hw]
      apply List.ext_getElem?
      intro j
      rw [wipe_get, wipe_get, wipe_length]
      by_cases hj : j ∈ vs
      · rw [if_pos hj, if_pos hj]
      · rw [if_neg hj, if_neg hj]
    refine ⟨hw', ?_⟩
    refine ht xs[i] hmem H0 S3 H4 s2 e4 g3.f _ fun S5 H5 g5 => ?_
    have sD5 : S5 D = none := g5.n D sD3 (some_ne hD3)
    have hD5 : H5 D = some (.lst acc) := g5.all D _ hD3
    cases hq : q xs[i] with
    | false =>
      rw [if_neg Bool.false_ne_true]
      refine ⟨hlt, S5, acc, (g2.trans g3).trans g5, sD5, hD5, ?_⟩
      rw [filter_take_succ hd0, hq]
      simp only [Bool.false_eq_true, if_false, List.append_nil]
      exact DpAll_mono hacc (g3.s.trans g5.s)
    | true =>
      rw [if_pos rfl]
      refine he xs[i] hmem hq H0 S5 H5 s2 (e4.grow g5) g5.f _ fun y2 S6 H6 g6 d6 => ?_
      have sD6 : S6 D = none := g6.n D sD5 (some_ne hD5)
      have hD6 : H6 D = some (.lst acc) := g6.all D _ hD5
      have gg : Grow m0 S1 H1 S6 H6 := ((g2.trans g3).trans g5).trans g6
      have hl := DpAll_len hacc
      have hlf : (((xs.take i).filter q).map f).length ≤ i := by
        rw [List.length_map]
        exact Nat.le_trans (List.length_filter_le _ _) (by rw [List.length_take]; omega)
      refine ⟨acc, hD6, szt (by omega), hlt, S6, acc ++ [y2], gg.putNew hD sD6 (some_ne hD6), sD6, upd_same, ?_⟩
      rw [filter_take_succ hd0, hq]
      simp only [if_true, List.map_append, List.map_cons, List.map_nil]
      exact DpAll_app (DpAll_mono hacc ((g3.s.trans g5.s).trans g6.s)) (.cons d6 .nil)
  · have ei : i = xs.length := by omega
    subst ei
    refine .inl ⟨by rw [← hlen]; exact w.stop H2 (g2.s.trans g2.f), k D S' H2 acc (g1.trans g2) hDH sD hD2 ?_⟩
    rw [List.take_length] at hacc
    exact hacc
theorem ev_lc {α : Type} {xs : List α} {h : α → PyData} {wi : TI} {g : TG} {tt : TT} {vs : List Nat} {q : α → Bool} {f : α → PyData} {lb : α → List Sl} (hi : EvI K wi l (xs.map h)) (hg : GIn g vs)
    (hm : ∀ v s H (Q Q' : L2.St → Hp → Prop), (∀ s' H', Q s' H' → Q' s' H') → g v s H Q → g v s H Q')
    (hb : ∀ x ∈ xs, Bd K g (wipeL l vs) (h x) (lb x)) (ht : ∀ x ∈ xs, EvT K tt (lb x) (q x)) (he : ∀ x ∈ xs, q x = true → Ev K te (lb x) (f x)) (hz : xs.length ≤ 100000) : Ev K (tLc wi g tt te vs) l (.list ((xs.filter q).map f)) := fun H0 S H s e hs Q k =>
  ev_lcN hi hg hm hb ht he hz e hs Q fun D S' H' xs g1 h1 h2 h3 h4 =>
    have g2 := g1.take h1 h3 h2
    k _ _ _ g2 (.lst (.inl (.inl upd_same)) (DpAll_mono h4 (same_up h2)))
/-- .. without a test -/
theorem ev_lcA {α : Type} {xs : List α} {h : α → PyData} {wi : TI} {g : TG} {vs : List Nat} {f : α → PyData} {lb : α → List Sl} (hi : EvI K wi l (xs.map h)) (hg : GIn g vs)
    (hm : ∀ v s H (Q Q' : L2.St → Hp → Prop), (∀ s' H', Q s' H' → Q' s' H') → g v s H Q → g v s H Q')
    (hb : ∀ x ∈ xs, Bd K g (wipeL l vs) (h x) (lb x)) (he : ∀ x ∈ xs, Ev K te (lb x) (f x)) (hz : xs.length ≤ 100000) : Ev K (tLc wi g tYes te vs) l (.list (xs.map f)) := by
  have := ev_lc (q := fun _ => true) hi hg hm hb (fun _ _ => et_yes) (fun x hx _ => he x hx) hz
  rwa [List.filter_eq_self.mpr fun _ _ => rfl] at this
/-- what comes to a new list that is nobody's yet -/
def EvL (K : PySem.W.Frag) (te : TE) (l : List Sl) (ds : List PyData) : Prop := ∀ H0 S H s, Env K H0 S H s l → Same S H → ∀ Q : VK, (∀ p S' H' xs, Grow m0 S H S' H' → H p = none → S' p = none → H' p = some (.lst xs) → DpAll K S' xs ds → Q (.ref p) H') → te s H Q
theorem el_lc {α : Type} {xs : List α} {h : α → PyData} {wi : TI} {g : TG} {tt : TT} {vs : List Nat} {q : α → Bool} {f : α → PyData} {lb : α → List Sl} (hi : EvI K wi l (xs.map h)) (hg : GIn g vs)
    (hm : ∀ v s H (Q Q' : L2.St → Hp → Prop), (∀ s' H', Q s' H' → Q' s' H') → g v s H Q → g v s H Q')
    (hb : ∀ x ∈ xs, Bd K g (wipeL l vs) (h x) (lb x)) (ht : ∀ x ∈ xs, EvT K tt (lb x) (q x)) (he : ∀ x ∈ xs, q x = true → Ev K te (lb x) (f x)) (hz : xs.length ≤ 100000) : EvL K (tLc wi g tt te vs) l ((xs.filter q).map f) := fun H0 S H s e hs Q k =>
  ev_lcN hi hg hm hb ht he hz e hs Q k
theorem el_lcA {α : Type} {xs : List α} {h : α → PyData} {wi : TI} {g : TG} {vs : List Nat} {f : α → PyData} {lb : α → List Sl} (hi : EvI K wi l (xs.map h)) (hg : GIn g vs)
    (hm : ∀ v s H (Q Q' : L2.St → Hp → Prop), (∀ s' H', Q s' H' → Q' s' H') → g v s H Q → g v s H Q')
    (hb : ∀ x ∈ xs, Bd K g (wipeL l vs) (h x) (lb x)) (he : ∀ x ∈ xs, Ev K te (lb x) (f x)) (hz : xs.length ≤ 100000) : EvL K (tLc wi g tYes te vs) l (xs.map f) := by
  have := el_lc (q := fun _ => true) hi hg hm hb (fun _ _ => et_yes) (fun x hx _ => he x hx) hz
  rwa [List.filter_eq_self.mpr fun _ _ => rfl] at this
theorem el_lst {tr : TA} (ha : EvA K tr l ds) (hl : ds.length ≤ 100000) : EvL K (tLst tr) l ds := fun H0 S H s e hs Q q =>
  ha H0 S H s e hs _ fun xs S1 H1 g1 d1 => ⟨by rw [DpAll_len d1]; exact szl hl, fun p hp => q p S1 _ xs (g1.trans (Grow.out g1.f hp)) (g1.all.free hp) (g1.f.free hp) upd_same d1⟩
theorem el_listL (ha : Ev K te l (.list ds)) : EvL K (tCB (rListK K) (tCons te tNil)) l ds := fun H0 S H s e hs Q q =>
  ha H0 S H s e hs _ fun v S1 H1 g1 d1 => by
    cases d1 with
    | lst h1 h2 => exact ⟨_, _, rfl, .inl (g1.f.seq h1), fun p hp => q p S1 _ _ (g1.trans (Grow.out g1.f hp)) (g1.all.free hp) (g1.f.free hp) upd_same h2⟩
theorem el_listT (ha : Ev K te l (.tuple ds)) : EvL K (tCB (rListK K) (tCons te tNil)) l ds := fun H0 S H s e hs Q q =>
  ha H0 S H s e hs _ fun v S1 H1 g1 d1 => by
    cases d1 with
    | tup h1 h2 => exact ⟨_, _, rfl, .inr (same_seqT g1.f h1), fun p hp => q p S1 _ _ (g1.trans (Grow.out g1.f hp)) (g1.all.free hp) (g1.f.free hp) upd_same h2⟩
end
end Dz

namespace Dz
open PySem L2 RZ

section
variable {K : PySem.W.Frag} {l l' : List Sl} {ta tb te : TE} {t u : TT} {a b c d : PyData} {r : R2} {ds : List PyData} {i : Nat} {o : Addr}
/-! ### a list of one's own, read -/
theorem ev_ixO {k : Int} (h : l[i]? = some (.own o ds)) (hb : Ev K tb l (.int k)) (e : atI ds k = some d) : Ev K (tOp (rIx K) (tVar i) tb) l d := fun H0 S H s en hs Q q => by
  obtain ⟨v, hv, rfl, h0, hS, xs, hx, hd⟩ := en.ok i _ h
  refine ⟨_, hv, hb H0 S H s en hs _ fun y S1 H1 g1 d1 => ?_⟩
  cases d1
  obtain ⟨w, hw, hdw⟩ := atI_map (DpAll_mono hd g1.s) e
  exact .inl ⟨o, xs, k, w, rfl, rfl, .inl (.inl (g1.all o _ hx)), hw, q w S1 H1 g1 hdw⟩
theorem ev_lenO (h : l[i]? = some (.own o ds)) : Ev K (tCB (rLenK K) (tCons (tVar i) tNil)) l (.int ds.length) := fun H0 S H s en hs Q q => by
  obtain ⟨v, hv, rfl, h0, hS, xs, hx, hd⟩ := en.ok i _ h
  exact ⟨_, hv, o, xs, rfl, .inl (.inl (.inl hx)), q _ S H (Grow.refl hs) (by rw [DpAll_len hd]; exact .int _)⟩
theorem et_truthO (h : l[i]? = some (.own o ds)) : EvT K (fun σ H Q => tVar i σ H fun x H' => ∃ k, TruV K x H' k ∧ Q k H') l (!ds.isEmpty) := fun H0 S H s en hs Q q => by
  obtain ⟨v, hv, rfl, h0, hS, xs, hx, hd⟩ := en.ok i _ h
  exact ⟨_, hv, _, .inl ⟨xs, .inl (.inl hx), by rw [isEmpty_dp hd]⟩, q S H (Grow.refl hs)⟩
theorem ev_slO {tl th : TO} {lo hi : Option Int} (h : l[i]? = some (.own o ds)) (h1 : EvO K tl l lo) (h2 : EvO K th l hi) : Ev K (tSl (rSlAny K) (tVar i) tl th) l (.list (cutD ds lo hi)) := fun H0 S H s en hs Q q => by
  obtain ⟨v, hv, rfl, h0, hS, xs, hx, hd⟩ := en.ok i _ h
  refine ⟨_, hv, h1 H0 S H s en hs _ fun S1 H1 g1 => h2 H0 S1 H1 s (en.grow g1) g1.f _ fun S2 H2 g2 => ?_⟩
  exact .inl ⟨o, xs, rfl, .inl (.inl ((g1.trans g2).all o _ hx)), new_lst g2.f (cut_dp (DpAll_mono hd (g1.s.trans g2.s)) lo hi) fun v S' H' g d => q v S' H' ((g1.trans g2).trans g) d⟩
theorem ev_inO {neg : Bool} (ha : Ev K ta l a) (h : l[i]? = some (.own o ds)) (f : flatD a = true) (fs : ds.all flatD = true) : Ev K (tOp (rIn K neg) ta (tVar i)) l (.bool (if neg then !inF a ds else inF a ds)) := fun H0 S H s en hs Q q =>
  ha H0 S H s en hs _ fun x S1 H1 g1 d1 => by
    obtain ⟨v, hv, rfl, h0, hS, xs, hx, hd⟩ := (en.grow g1).ok i _ h
    refine ⟨_, hv, o, xs, rfl, .inl (.inl (.inl hx)), flat_dp d1 f, flats_dp hd fs, ?_⟩
    rw [in_dp d1 f hd fs]
    exact q _ S1 H1 g1 (.bl _)
/-- tuple(xs), list(xs) of one's own -/
theorem ev_tupleO (h : l[i]? = some (.own o ds)) : Ev K (tCB (rTupleK K) (tCons (tVar i) tNil)) l (.tuple ds) := fun H0 S H s en hs Q q => by
  obtain ⟨v, hv, rfl, h0, hS, xs, hx, hd⟩ := en.ok i _ h
  exact ⟨_, hv, o, xs, rfl, .inl ⟨.inl (.inl hx), new_tup hs hd q⟩⟩

/-! ### the state of a def's body -/
structure Cn where
  K : PySem.W.Frag
  m : Addr → Prop
  S0 : Hp
  H0 : Hp
  Sb : Hp
structure At (C : Cn) (l : List Sl) (s : L2.St) (H : Hp) : Prop where
  ex : ∃ S, Grow C.m C.S0 C.H0 S H ∧ Env C.K C.H0 S H s l ∧ Same C.Sb S
  tw : ∀ t n, Sl.town t n ∈ l → C.m t
inductive Weak : List Sl → List Sl → Prop
  | nil : Weak [] []
  | same {x : Sl} {l l' : List Sl} : Weak l l' → Weak (x :: l) (x :: l')
  | no {x : Sl} {l l' : List Sl} : Weak l l' → Weak (x :: l) (.no :: l')
theorem Weak.len (h : Weak l l') : l.length = l'.length := by
  induction h with
  | nil => rfl
  | same _ ih => simp [ih]
  | no _ ih => simp [ih]
theorem Weak.get (h : Weak l l') : ∀ {j : Nat} {x : Sl}, l'[j]? = some x → x = .no ∨ l[j]? = some x := by
  induction h with
  | nil => intro j x e; simp at e
  | same _ ih =>
    intro j x e
    cases j with
    | zero => simp at e; exact .inr (by simpa using e)
    | succ j => simpa using ih (by simpa using e)
  | no _ ih =>
    intro j x e
    cases j with
    | zero => simp at e; exact .inl e.symm
    | succ j => simpa using ih (by simpa using e)
theorem Weak.muts (h : Weak l l') : (muts l').Sublist (muts l) := by
  induction h with
  | nil => exact List.Sublist.refl _
  | @same x l l' _ ih =>
    show (List.filterMap Sl.adr (x :: l')).Sublist (List.filterMap Sl.adr (x :: l))
    rw [List.filterMap_cons, List.filterMap_cons]
    cases x.adr with
    | none => exact ih
    | some y => exact ih.cons₂ _
  | @no x l l' _ ih =>
    show (List.filterMap Sl.adr (.no :: l')).Sublist (List.filterMap Sl.adr (x :: l))
    rw [List.filterMap_cons, List.filterMap_cons]
    show (List.filterMap Sl.adr l').Sublist _
    cases x.adr with
    | none => exact ih
    | some y => exact ih.cons _
theorem Env.weak {H0 S H : Hp} {s : L2.St} (h : Env K H0 S H s l) (w : Weak l l') : Env K H0 S H s l' :=
  ⟨h.len.trans w.len, fun j x e => by
    rcases w.get e with rfl | e'
    · have hj : j < s.length := by
        rw [h.len, w.len]
        exact (List.getElem?_eq_some_iff.mp e).1
      exact ⟨s[j], List.getElem?_eq_getElem hj, trivial⟩
    · exact h.ok j x e', w.muts.nodup h.nd⟩
end
section
variable {C : Cn} {l l' : List Sl} {ta tb te : TE} {t u : TT} {a b c d : PyData} {ds : List PyData} {i : Nat} {o : Addr} {s : L2.St} {H : Hp} {D : Ends} {tu tv : TS} {x y : Sl}
theorem At.weak (h : At C l s H) (w : Weak l l') : At C l' s H := by
  obtain ⟨S, g, e, b⟩ := h.ex
  refine ⟨⟨S, g, e.weak w, b⟩, fun t n hm => ?_⟩
  obtain ⟨j, hj⟩ := List.mem_iff_getElem?.mp hm
  rcases w.get hj with q | q
  · cases q
  · exact h.tw t n (List.mem_of_getElem? q)
theorem tw_set {m : Addr → Prop} (h : ∀ t n, Sl.town t n ∈ l → m t) (hx : ∀ t n, y ≠ .town t n) : ∀ t n, Sl.town t n ∈ l.set i y → m t := fun t n hm => by
  rcases List.mem_or_eq_of_mem_set hm with q | q
  · exact h t n q
  · exact absurd q.symm (hx t n)
/-- one step of evaluation -/
theorem At.step {v : V} (h : At C l s H) (he : Ev C.K te l d) {Q : VK} (q : ∀ v S' H', Grow C.m C.S0 C.H0 S' H' → Env C.K C.H0 S' H' s l → Same C.Sb S' → Dp C.K S' v d → Q v H') : te s H Q := by
  obtain ⟨S, g, e, b⟩ := h.ex
  exact he C.H0 S H s e g.f Q fun v S' H' g1 d1 => q v S' H' (g.trans g1.any) (e.grow g1) (b.trans g1.s) d1
theorem d_asg (h : At C l s H) (he : Ev C.K te l d) (k : ∀ s' H', At C (l.set i (.dat d)) s' H' → D.nx s' H') : tAsg te (gName i) D s H :=
  h.step (v := .non) he fun v S' H' g e b d1 => k _ _ ⟨⟨S', g, e.dat d1, b⟩, tw_set h.tw fun _ _ z => nomatch z⟩
/-- a target of any form -/
theorem d_asgB {g : TG} (h : At C l s H) (he : Ev C.K te l d) (hb : Bd C.K g l d l') (ht : ∀ t n, Sl.town t n ∈ l' → Sl.town t n ∈ l) (k : ∀ s' H', At C l' s' H' → D.nx s' H') : tAsg te g D s H :=
  h.step (v := .non) he fun v S' H' g1 e b d1 => hb C.H0 S' H' s v _ e g1.f d1 fun s' e' => k _ _ ⟨⟨S', g1, e', b⟩, fun t n q => h.tw t n (ht t n q)⟩
theorem d_asgL (h : At C l s H) (he : EvL C.K te l ds) (k : ∀ p s' H', At C (l.set i (.own p ds)) s' H' → D.nx s' H') : tAsg te (gName i) D s H := by
  obtain ⟨S, g, e, b⟩ := h.ex
  refine he C.H0 S H s e g.f _ fun p S' H' xs g1 hp sp hx hd => ?_
  have e' := e.grow g1
  have h0 : C.H0 p = none := by
    cases hq : C.H0 p with
    | none => rfl
    | some u => exact absurd hp (g.d p (some_ne hq))
  have hm : p ∉ muts l := fun z => (e.there z).1 hp
  exact k p _ _ ⟨⟨S', g.trans g1.any, e'.fresh rfl hm ⟨rfl, h0, sp, xs, hx, hd⟩, b.trans g1.s⟩, tw_set h.tw fun _ _ z => nomatch z⟩
theorem d_ret (h : At C l s H) (he : Ev C.K te l d) (k : ∀ v S' H', Grow C.m C.S0 C.H0 S' H' → Dp C.K S' v d → D.rt v H') : tRet te D s H :=
  h.step (v := .non) he fun v S' H' g e b d1 => k v S' H' g d1
theorem d_drop (h : At C l s H) (he : Ev C.K te l d) (k : ∀ H', At C l s H' → D.nx s H') : tDrop te D s H :=
  h.step (v := .non) he fun v S' H' g e b d1 => k H' ⟨⟨S', g, e, b⟩, h.tw⟩
theorem d_if {k : Bool} (h : At C l s H) (he : EvT C.K t l k) (h1 : k = true → ∀ H', At C l s H' → tu D s H') (h2 : k = false → ∀ H', At C l s H' → tv D s H') : tIfS t tu tv D s H := by
  obtain ⟨S, g, e, b⟩ := h.ex
  refine he C.H0 S H s e g.f _ fun S' H' g1 => ?_
  have h' : At C l s H' := ⟨⟨S', g.trans g1.any, e.grow g1, b.trans g1.s⟩, h.tw⟩
  cases k with
  | true =>
    show tu D s H'
    exact h1 rfl H' h'
  | false =>
    show tv D s H'
    exact h2 rfl H' h'
theorem d_freeze (h : At C l s H) (hi : l[i]? = some (.own o ds)) : At C (l.set i (.dat (.list ds))) s H := by
  obtain ⟨S, g, e, b⟩ := h.ex
  obtain ⟨v, hv, rfl, h0, hS, xs, hx, hd⟩ := e.ok i _ hi
  have hm : Same S (upd S o (.lst xs)) := same_up hS
  refine ⟨⟨upd S o (.lst xs), g.take h0 hx hS, ⟨by rw [List.length_set]; exact e.len, fun j z ej => ?_, (muts_set_sub l i _ rfl).nodup e.nd⟩, b.trans hm⟩, tw_set h.tw fun _ _ z => nomatch z⟩
  by_cases hij : i = j
  · subst hij
    have hl : i < l.length := (List.getElem?_eq_some_iff.mp hi).1
    rw [List.getElem?_set_self hl] at ej
    cases ej
    exact ⟨_, hv, .ref o, rfl, .lst (.inl (.inl upd_same)) (DpAll_mono hd hm)⟩
  · rw [List.getElem?_set_ne hij] at ej
    obtain ⟨w, hw, ok⟩ := e.ok j z ej
    refine ⟨w, hw, ?_⟩
    have na : ∀ a, z.adr = some a → a ≠ o := fun a ha z' => by
      subst z'
      exact hij (nodup_eq (ys := []) e.nd hi ej rfl ha)
    cases z with
    | no => trivial
    | dat d => obtain ⟨w', e1, e2⟩ := ok; exact ⟨w', e1, Dp_mono e2 hm⟩
    | own o2 es => obtain ⟨e1, e2, e3, ys, e4, e5⟩ := ok; exact ⟨e1, e2, by rw [upd_ne (na _ rfl)]; exact e3, ys, e4, DpAll_mono e5 hm⟩
    | val w' => exact ok
    | town t n => obtain ⟨e1, e2, e3⟩ := ok; exact ⟨e1, by rw [upd_ne (na _ rfl)]; exact e2, e3⟩
    | dct o2 es => obtain ⟨e1, e2, e3, ys, e4, e5⟩ := ok; exact ⟨e1, e2, by rw [upd_ne (na _ rfl)]; exact e3, ys, e4, e5.mono hm⟩
/-- the list of a slot is changed in the heap -/
theorem At.put {es : List PyData} {S H' : Hp} {ys : List V} (tw : ∀ t n, Sl.town t n ∈ l → C.m t) (g : Grow C.m C.S0 C.H0 S H) (e : Env C.K C.H0 S H s l) (b : Same C.Sb S) (hi : l[i]? = some (.own o ds)) (hd : DpAll C.K S ys es) :
    At C (l.set i (.own o es)) s (upd H o (.lst ys)) := by
  obtain ⟨v, hv, rfl, h0, hS, xs, hx, _⟩ := e.ok i _ hi
  have hk : ∀ c w, c ≠ o → H c = some w → upd H o (.lst ys) c = some w := fun c w hc hw => by rw [upd_ne hc]; exact hw
  refine ⟨⟨S, g.putNew h0 hS (some_ne hx), e.put hi rfl rfl (Same.refl S) (fun _ z _ => z) hk fun v ok => ?_, b⟩, tw_set tw fun _ _ z => nomatch z⟩
  obtain ⟨e1, e2, e3, _⟩ := ok
  exact ⟨e1, e2, e3, ys, upd_same, hd⟩
theorem d_app (h : At C l s H) (hi : l[i]? = some (.own o ds)) (he : Ev C.K te l d) (hz : ds.length < 100000) (k : ∀ H', At C (l.set i (.own o (ds ++ [d]))) s H' → D.nx s H') : tDrop (tBM C.K "list" rAppend (tVar i) (tCons te tNil)) D s H := by
  obtain ⟨S, g, e, b⟩ := h.ex
  obtain ⟨v, hv, rfl, h0, hS, xs, hx, hd⟩ := e.ok i _ hi
  refine ⟨_, hv, .inl ⟨rfl, xs, .inl (.inl hx)⟩, he C.H0 S H s e g.f _ fun y S1 H1 g1 d1 => ?_⟩
  refine ⟨o, xs, y, rfl, rfl, g1.all o _ hx, szt (by rw [DpAll_len hd]; exact hz), k _ ?_⟩
  exact At.put (H' := H1) h.tw (g.trans g1.any) (e.grow g1) (b.trans g1.s) hi (DpAll_app (DpAll_mono hd g1.s) (.cons d1 .nil))
/-- xs[j] = e -/
theorem d_setL {j : Nat} (h : At C l s H) (hi : l[i]? = some (.own o ds)) (he : Ev C.K te l d) (hj : Ev C.K tb l (.int (j : Int))) (hz : j < ds.length) (k : ∀ H', At C (l.set i (.own o (ds.set j d))) s H' → D.nx s H') : tAsg te (gSub (tVar i) tb rSetL) D s H := by
  obtain ⟨S, g, e, b⟩ := h.ex
  refine he C.H0 S H s e g.f _ fun y S1 H1 g1 d1 => ?_
  obtain ⟨v, hv, rfl, h0, hS, xs, hx, hd⟩ := (e.grow g1).ok i _ hi
  refine ⟨_, hv, hj C.H0 S1 H1 s (e.grow g1) g1.f _ fun z S2 H2 g2 d2 => ?_⟩
  cases d2
  have hl := DpAll_len hd
  refine ⟨o, xs, (j : Int), j, rfl, rfl, g2.all o _ hx, by unfold ixN; rw [if_pos (by omega), if_pos (by omega)]; simp, k _ ?_⟩
  exact At.put (H' := H2) h.tw (g.trans (g1.trans g2).any) (e.grow (g1.trans g2)) (b.trans (g1.s.trans g2.s)) hi (DpAll_set (Dp_mono d1 g2.s) j (DpAll_mono hd g2.s))
/-! ### loops -/
abbrev Cn.at_ (C : Cn) (S : Hp) : Cn := { C with Sb := S }
/-- over a walk; x: what the loop carries, lf x: the environment between two turns -/
theorem d_forG {α : Type} {wi : TI} {g : TG} (h : At C l s H) (hi : EvI C.K wi l ds) (lf : α → List Sl) (I : Nat → α → Prop) (x0 : α) (h0 : I 0 x0) (hw : Weak l (lf x0))
    (step : ∀ i x d S, ds[i]? = some d → I i x → ∃ lb, Bd C.K g (lf x) d lb ∧ (∀ t n, Sl.town t n ∈ lb → Sl.town t n ∈ lf x) ∧ ∀ s H, At (C.at_ S) lb s H →
      tu { D with nx := fun s' H' => ∃ y, I (i + 1) y ∧ At (C.at_ S) (lf y) s' H', ct := fun s' H' => ∃ y, I (i + 1) y ∧ At (C.at_ S) (lf y) s' H', bk := D.nx } s H)
    (fin : ∀ x s H, I ds.length x → At C (lf x) s H → D.nx s H) : tFor wi g tu D s H := by
  obtain ⟨S, g0, e, b⟩ := h.ex
  refine hi C.H0 S H s e g0.f _ fun J S1 H1 g1 w => ?_
  refine ⟨fun i m s' H' => m = ds.length - i ∧ i ≤ ds.length ∧ ∃ x, I i x ∧ At (C.at_ S1) (lf x) s' H', ⟨ds.length, by simp, Nat.zero_le _, x0, h0, ⟨S1, g0.trans g1.any, (e.grow g1).weak hw, Same.refl S1⟩, ?_⟩, ?_⟩
  · intro t n hm
    obtain ⟨j, hj⟩ := List.mem_iff_getElem?.mp hm
    rcases hw.get hj with q | q
    · cases q
    · exact h.tw t n (List.mem_of_getElem? q)
  rintro i m s' H' ⟨rfl, hle, x, hI, hA⟩
  obtain ⟨S2, g2, e2, b2⟩ := hA.ex
  by_cases hlt : i < ds.length
  · refine .inr ⟨w.go i H' hlt (b2.trans g2.f), fun s' H' => i + 1 ≤ ds.length ∧ ∃ x, I (i + 1) x ∧ At (C.at_ S1) (lf x) s' H', fun s3 H3 ⟨q1, q2⟩ => ⟨ds.length - (i + 1), by omega, rfl, q1, q2⟩, fun v H3 y => ?_⟩
    have hd : ds[i]? = some ds[i] := List.getElem?_eq_getElem hlt
    obtain ⟨S3, g3, d3⟩ := w.yld i H' v H3 ds[i] S2 hd b2 g2.f y
    obtain ⟨lb, hb, hbt, body⟩ := step i x ds[i] S1 hd hI
    refine hb C.H0 S3 H3 s' v _ (e2.grow g3) g3.f d3 fun s4 e4 => ?_
    have := body s4 H3 ⟨⟨S3, g2.trans g3.any, e4, b2.trans g3.s⟩, fun t n q => hA.tw t n (hbt t n q)⟩
    have en : (fun s' H' => ∃ y, I (i + 1) y ∧ At (C.at_ S1) (lf y) s' H') = fun s' H' => i + 1 ≤ ds.length ∧ ∃ x, I (i + 1) x ∧ At (C.at_ S1) (lf x) s' H' := by
      funext s' H'
      exact propext ⟨fun q => ⟨hlt, q⟩, fun q => q.2⟩
    rw [en] at this
    exact this
  · have ei : i = ds.length := by omega
    subst ei
    exact .inl ⟨w.stop H' (b2.trans g2.f), fin x s' H' hI ⟨⟨S2, g2, e2, (b.trans g1.s).trans b2⟩, hA.tw⟩⟩
theorem d_for {α : Type} {wi : TI} {g : TG} (h : At C l s H) (hi : EvI C.K wi l ds) (lf : α → List Sl) (I : Nat → α → Prop) (lb : α → PyData → List Sl) (x0 : α) (h0 : I 0 x0) (hw : Weak l (lf x0))
    (hb : ∀ i x d, ds[i]? = some d → I i x → Bd C.K g (lf x) d (lb x d)) (hbt : ∀ x d t n, Sl.town t n ∈ lb x d → Sl.town t n ∈ lf x)
    (step : ∀ i x d S s H, ds[i]? = some d → I i x → At (C.at_ S) (lb x d) s H → tu { D with nx := fun s' H' => ∃ y, I (i + 1) y ∧ At (C.at_ S) (lf y) s' H', ct := fun s' H' => ∃ y, I (i + 1) y ∧ At (C.at_ S) (lf y) s' H', bk := D.nx } s H)
    (fin : ∀ x s H, I ds.length x → At C (lf x) s H → D.nx s H) : tFor wi g tu D s H :=
  d_forG h hi lf I x0 h0 hw (fun i x d S hd hI => ⟨lb x d, hb i x d hd hI, hbt x d, fun s H A => step i x d S s H hd hI A⟩) fin
/-- while: x what the loop carries, mu its measure -/
theorem d_while {α : Type} (h : At C l s H) (lf : α → List Sl) (I : α → Prop) (mu : α → Nat) (bt : α → Bool) (x0 : α) (h0 : I x0) (hw : Weak l (lf x0)) (ht : ∀ x, I x → EvT C.K t (lf x) (bt x))
    (step : ∀ x s H, I x → bt x = true → At C (lf x) s H → tu { D with nx := fun s' H' => ∃ y, I y ∧ mu y < mu x ∧ At C (lf y) s' H', ct := fun s' H' => ∃ y, I y ∧ mu y < mu x ∧ At C (lf y) s' H', bk := D.nx } s H)
    (fin : ∀ x s H, I x → bt x = false → At C (lf x) s H → D.nx s H) : tWhile t tu D s H := by
  refine ⟨fun m s' H' => ∃ x, I x ∧ m = mu x ∧ At C (lf x) s' H', ⟨mu x0, x0, h0, rfl, h.weak hw⟩, ?_⟩
  rintro m s' H' ⟨x, hI, rfl, hA⟩
  obtain ⟨S, g, e, b⟩ := hA.ex
  refine ht x hI C.H0 S H' s' e g.f _ fun S1 H1 g1 => ?_
  have hA1 : At C (lf x) s' H1 := ⟨⟨S1, g.trans g1.any, e.grow g1, b.trans g1.s⟩, hA.tw⟩
  cases hk : bt x with
  | true =>
    rw [if_pos rfl]
    exact ⟨_, fun s3 H3 ⟨y, q1, q2, q3⟩ => ⟨mu y, q2, y, q1, rfl, q3⟩, step x s' H1 hI hk hA1⟩
  | false =>
    rw [if_neg Bool.false_ne_true]
    exact fin x s' H1 hI hk hA1
end
/-! ### the start of a def -/
theorem env_nil {K : PySem.W.Frag} {H0 S H : Hp} : Env K H0 S H [] [] := ⟨rfl, fun i x e => by simp at e, List.nodup_nil⟩
theorem env_cons {K : PySem.W.Frag} {H0 S H : Hp} {s : L2.St} {l : List Sl} {v : Option V} {x : Sl} (h : Env K H0 S H s l) (hx : x.adr = none) (ok : SlOk K H0 S H x v) : Env K H0 S H (v :: s) (x :: l) :=
  ⟨by simp [h.len], fun i y e => by
    cases i with
    | zero => simp at e; subst e; exact ⟨v, rfl, ok⟩
    | succ i => simpa using h.ok i y (by simpa using e), by
    show (List.filterMap Sl.adr (x :: l)).Nodup
    rw [List.filterMap_cons, hx]
    exact h.nd⟩
theorem env_no {K : PySem.W.Frag} {H0 S H : Hp} {s : L2.St} {l : List Sl} {v : Option V} (h : Env K H0 S H s l) : Env K H0 S H (v :: s) (.no :: l) := env_cons h rfl trivial
theorem env_dat {K : PySem.W.Frag} {H0 S H : Hp} {s : L2.St} {l : List Sl} {v : V} {d : PyData} (hd : Dp K S v d) (h : Env K H0 S H s l) : Env K H0 S H (some v :: s) (.dat d :: l) := env_cons h rfl ⟨v, rfl, hd⟩
theorem env_val {K : PySem.W.Frag} {H0 S H : Hp} {s : L2.St} {l : List Sl} {v : V} (h : Env K H0 S H s l) : Env K H0 S H (some v :: s) (.val v :: l) := env_cons h rfl rfl
/-- the town, where no other object of a slot stands -/
theorem env_town {K : PySem.W.Frag} {H0 S H : Hp} {s : L2.St} {l : List Sl} {t : Addr} {n : Nat} (h : Env K H0 S H s l) (hm : muts l = []) (hs : S t = none) (ht : TownAt H t n) : Env K H0 S H (some (.ref t) :: s) (.town t n :: l) :=
  ⟨by simp [h.len], fun i y e => by
    cases i with
    | zero => simp at e; subst e; exact ⟨_, rfl, rfl, hs, ht⟩
    | succ i => simpa using h.ok i y (by simpa using e), by
    show (List.filterMap Sl.adr (.town t n :: l)).Nodup
    rw [List.filterMap_cons]
    have : List.filterMap Sl.adr l = [] := hm
    show (t :: List.filterMap Sl.adr l).Nodup
    rw [this]
    simp⟩
/-- the promise of a def that takes data and gives data -/
def spF (K : PySem.W.Frag) (pre : List PyData → Prop) (res : List PyData → PyData) : Sp := fun vs H Q _ => ∃ S ds, Same S H ∧ DpAll K S vs ds ∧ pre ds ∧ ∀ v S' H', Grow m0 S H S' H' → Dp K S' v (res ds) → Q v H'
theorem sp_of {K : PySem.W.Frag} {pre : List PyData → Prop} {res : List PyData → PyData} {ds : List PyData} {c : PyData} (hp : pre ds) (hc : res ds = c) : SpD K (spF K pre res) ds c := fun vs S H Q E hs hd q => ⟨S, ds, hs, hd, hp, by rw [hc]; exact q⟩
end Dz

namespace Dz
open PySem PySem.SeqAt PyProof.Rows L2 RZ

/-! ### rules for any kind of value -/
theorem OpR_or {X : Cx} {f : Value → Value → Sem Value} {r r' : R2} (h : OpR X f r) (h' : OpR X f r') : OpR X f (fun x y H Q => r x y H Q ∨ r' x y H Q) := fun pins s σ H x y v u Q I rx ry q =>
  q.elim (fun q => h pins s σ H x y v u Q I rx ry q) fun q => h' pins s σ H x y v u Q I rx ry q
theorem SlR_or {X : Cx} {r r' : V → Option Int → Option Int → Hp → VK → Prop} (h : SlR X r) (h' : SlR X r') : SlR X (fun x lo hi H Q => r x lo hi H Q ∨ r' x lo hi H Q) := fun pins s σ H x v vl vu lo hi sl Q I rx hs pl pu q =>
  q.elim (fun q => h pins s σ H x v vl vu lo hi sl Q I rx hs pl pu q) fun q => h' pins s σ H x v vl vu lo hi sl Q I rx hs pl pu q
theorem sl_any {X : Cx} : SlR X (rSlAny X.K) := SlR_or sl_list sl_tupA
/-- list + list, whichever they are -/
def rCatL (K : PySem.W.Frag) : R2 := fun x y H Q => ∃ l b xs zs, x = .ref l ∧ y = .ref b ∧ SqL K H l xs ∧ SqL K H b zs ∧ xs.length + zs.length ≤ sizeLine ∧ ∀ p, H p = none → Q (.ref p) (upd H p (.lst (xs ++ zs)))
theorem op_catL {X : Cx} : OpR X (binaryOp .Add) (rCatL X.K) := by
  intro pins s σ H x y v u Q I rx ry h
  obtain ⟨l, b, xs, zs, rfl, rfl, hH, hB, hz, q⟩ := h
  cases rx
  cases ry
  obtain ⟨its, r, pl, z⟩ := I.list hH
  obtain ⟨its2, r2, pl2, z2⟩ := I.list hB
  obtain ⟨⟨cls, dd, data, sl⟩, ho, hc, n, hd⟩ := id pl.isList
  obtain ⟨⟨cls2, dd2, data2, sl2⟩, ho2, hc2, n2, hd2⟩ := id pl2.isList
  simp only at hc hd hc2 hd2
  subst hc hd hc2 hd2
  have e1 := r.length
  have e2 := r2.length
  have e : its.toArray ++ its2.toArray = (its ++ its2).toArray := by simp
  refine concat_meets ⟨_, ho, rfl⟩ ⟨_, ho2, rfl⟩ noFill_list_add seq_list_add PySem.F.slot_list_add PySem.F.entry_list_add (PySem.F.args_list_add_2 _ _) (PyProof.Rows.list_addW l b its.toArray its2.toArray n n2 dd dd2 sl sl2 (by simp only [List.size_toArray]; omega)) ⟨ho, ho2, ?_⟩
  rw [e]
  exact ⟨.ref _, _, I.lnew (t' := s.toks) (r.append r2) (by rw [List.length_append]; omega), rfl, q _ I.fresh⟩
def rAddS : R2 := fun x y H Q => ∃ i j, x = .str i ∧ y = .str j ∧ i.length + j.length ≤ sizeLine ∧ Q (.str (i ++ j)) H
/-- a + b -/
def rPlus (K : PySem.W.Frag) : R2 := fun x y H Q => rI0 (fun i j => .int (i + j)) x y H Q ∨ (rCatL K x y H Q ∨ (rCatA K x y H Q ∨ rAddS x y H Q))
theorem op_plus {X : Cx} : OpR X (binaryOp .Add) (rPlus X.K) := OpR_or op_add (OpR_or op_catL (OpR_or op_catA op_add_str))
/-- a * b -/
def rTimes : R2 := fun x y H Q => rI CMul (fun i j => .int (i * j)) x y H Q ∨ rRep x y H Q
theorem op_times {X : Cx} : OpR X (binaryOp .Mult) rTimes := OpR_or op_mul op_rep
/-- a == b, a != b -/
def rEqA (K : PySem.W.Frag) : R2 := fun x y H Q => rEq x y H Q ∨ rEqD K x y H Q
def rNeA (K : PySem.W.Frag) : R2 := fun x y H Q => rNe x y H Q ∨ rNeD K x y H Q
theorem op_eqA {X : Cx} (hu : X.A.units + 64 < cLine) : OpR X (compareOp .Eq) (rEqA X.K) := OpR_or op_eq (op_eqD hu)
theorem op_neA {X : Cx} (hu : X.A.units + 64 < cLine) : OpR X (compareOp .NotEq) (rNeA X.K) := OpR_or op_ne (op_neD hu)
section
variable {K : PySem.W.Frag} {a b c : PyData} {r r' : R2} {l : List Sl} {ta tb te : TE}
theorem rd_l (h : RD K r a b c) : RD K (fun x y H Q => r x y H Q ∨ r' x y H Q) a b c := fun x y S H Q hs hx hy q => .inl (h x y S H Q hs hx hy q)
theorem rd_r (h : RD K r' a b c) : RD K (fun x y H Q => r x y H Q ∨ r' x y H Q) a b c := fun x y S H Q hs hx hy q => .inr (h x y S H Q hs hx hy q)
theorem rd_plusI {i j : Int} : RD K (rPlus K) (.int i) (.int j) (.int (i + j)) := rd_l (rd_I0 fun _ => .int _)
theorem rd_plusL {xs ys : List PyData} (hz : xs.length + ys.length ≤ 100000) : RD K (rPlus K) (.list xs) (.list ys) (.list (xs ++ ys)) := rd_r (rd_l fun x y S H Q hs hx hy q => by
  cases hx with
  | lst h1 h2 =>
    cases hy with
    | lst h3 h4 => exact ⟨_, _, _, _, rfl, rfl, hs.seq h1, hs.seq h3, szl (by rw [DpAll_len h2, DpAll_len h4]; exact hz), new_lst hs (DpAll_app h2 h4) q⟩)
theorem rd_plusT {xs ys : List PyData} (hz : xs.length + ys.length ≤ 100000) : RD K (rPlus K) (.tuple xs) (.tuple ys) (.tuple (xs ++ ys)) := rd_r (rd_r (rd_l fun x y S H Q hs hx hy q => by
  cases hx with
  | tup h1 h2 =>
    cases hy with
    | tup h3 h4 =>
      refine ⟨_, _, _, _, rfl, rfl, same_seqT hs h1, same_seqT hs h3, szl (by rw [DpAll_len h2, DpAll_len h4]; exact hz), fun e => ?_, fun _ e => ?_, fun _ _ => new_tup hs (DpAll_app h2 h4) q⟩
      · subst e
        cases h2
        exact q _ S H (Grow.refl hs) (.tup h3 h4)
      · subst e
        cases h4
        rw [List.append_nil] at q
        exact q _ S H (Grow.refl hs) (.tup h1 h2)))
theorem rd_plusS {i j : Str} (hz : i.length + j.length ≤ 100000) : RD K (rPlus K) (.str i) (.str j) (.str (i ++ j)) := rd_r (rd_r (rd_r fun x y S H Q hs hx hy q => by
  cases hx
  cases hy
  exact ⟨i, j, rfl, rfl, szl hz, q _ S H (Grow.refl hs) (.str _)⟩))
theorem rd_timesI {i j : Int} (h : CMul i j) : RD K rTimes (.int i) (.int j) (.int (i * j)) := rd_l (rd_I h fun _ => .int _)
/-- [..] * n -/
theorem ev_rep {tr : TA} {ds : List PyData} {k : Int} (ha : EvA K tr l ds) (hb : Ev K tb l (.int k)) (hk : k ≤ 1000 ∧ -1000 ≤ k) (hd : ds.length ≤ 100) : Ev K (tOp rTimes (tLst tr) tb) l (.list (List.replicate k.toNat ds).flatten) := fun H0 S H s e hs Q q =>
  ha H0 S H s e hs _ fun xs S1 H1 g1 d1 => ⟨by rw [DpAll_len d1]; exact szl (by omega), fun p hp => by
    have g2 : Grow m0 S1 H1 (upd S1 p (.lst xs)) (upd H1 p (.lst xs)) := Grow.new g1.f hp
    refine hb H0 _ _ s (e.grow (g1.trans g2)) g2.f _ fun y S3 H3 g3 d3 => ?_
    cases d3
    have hl := DpAll_len d1
    refine .inr ⟨p, k, xs, rfl, rfl, g3.all p _ upd_same, by omega, by omega, ?_, ?_⟩
    · refine szl (Nat.le_trans (Nat.mul_le_mul (show xs.length ≤ 100 by omega) (show k.toNat ≤ 1000 by omega)) (by decide))
    · have hrep : ∀ n : Nat, DpAll K S3 (List.replicate n xs).flatten (List.replicate n ds).flatten := fun n => by
        induction n with
        | zero => exact .nil
        | succ n ih =>
          rw [List.replicate_succ, List.replicate_succ, List.flatten_cons, List.flatten_cons]
          exact DpAll_app (DpAll_mono d1 (g2.s.trans g3.s)) ih
      exact new_lst g3.f (hrep _) fun v S' H' g d => q v S' H' (((g1.trans g2).trans g3).trans g) d⟩
theorem rd_eqA (h : RD K rEq a b c) : RD K (rEqA K) a b c := rd_l h
theorem rd_neA (h : RD K rNe a b c) : RD K (rNeA K) a b c := rd_l h
theorem rd_eqD (h1 : SeqAt.shaped a = true) (h2 : SeqAt.shaped b = true) : RD K (rEqA K) a b (.bool (PyData.eqv a b)) := rd_r fun x y S H Q hs hx hy q => ⟨a, b, Dp_mono hx hs, Dp_mono hy hs, h1, h2, q _ S H (Grow.refl hs) (.bl _)⟩
theorem rd_neD (h1 : SeqAt.shaped a = true) (h2 : SeqAt.shaped b = true) : RD K (rNeA K) a b (.bool (!PyData.eqv a b)) := rd_r fun x y S H Q hs hx hy q => ⟨a, b, Dp_mono hx hs, Dp_mono hy hs, h1, h2, q _ S H (Grow.refl hs) (.bl _)⟩
end
/-! ### calls of defs -/
structure Cal (P : Program) (w : World) (K : PySem.W.Frag) (mg : Str → Option Value) (base : Heap) (k : Nat) (x : Str) (ps : List Str) (sp : Sp) : Prop where
  ex : ∃ f fd, FnOk P w K mg base CX0 k f fd ps sp ∧ mg x = some (.ref f) ∧ PySem.W.keepIn K (.ref f) = true ∧ Binds K fd ps []
theorem Cal.mono {P : Program} {w : World} {K : PySem.W.Frag} {mg : Str → Option Value} {base : Heap} {j k : Nat} {x : Str} {ps : List Str} {sp : Sp} (c : Cal P w K mg base j x ps sp) (h : j ≤ k) : Cal P w K mg base k x ps sp := by
  obtain ⟨f, fd, a, b⟩ := c.ex
  exact ⟨f, fd, a.mono h, b⟩
theorem Cal.imp {P : Program} {w : World} {K : PySem.W.Frag} {mg : Str → Option Value} {base : Heap} {k : Nat} {x : Str} {ps : List Str} {sp sp' : Sp} (c : Cal P w K mg base k x ps sp) (h : ∀ vs H Q E, sp' vs H Q E → sp vs H Q E) : Cal P w K mg base k x ps sp' := by
  obtain ⟨f, fd, a, b⟩ := c.ex
  exact ⟨f, fd, a.imp h, b⟩
theorem pe_cal {X : Cx} {k : Nat} {x : Str} {ps : List Str} {sp : Sp} {p pos : Pos} {e : Expr} {es : List Expr} {t : TA} (c : Cal X.prog X.w X.K X.mg X.base k x ps sp) (hr : Room k X.A) (ha : PA X (e :: es) t) (hg : Gl X x := by rfl)
    (hdb : (x == ("__debug__" : Str)) = false := by decide) (he : starEach (e :: es) X.env = (false, eval e X.env) :: starEach es X.env := by rfl) (hpl : (backTo pos (starEach es X.env)).any (·.1) = false := by rfl) :
    PE X (.Call (.Name x p) (e :: es) [] pos) (tCall sp [] E0 t) := by
  obtain ⟨f, fd, F, hm, hk, hb⟩ := c.ex
  exact pe_call F hr hg hm hk hb .nil pass0 ha hdb he hpl
/-! ### draws: the town grows -/
def mt (t : Addr) : Addr → Prop := fun a => a = t
def EvX (K : PySem.W.Frag) (te : TE) (l : List Sl) (it : Nat) (t : Addr) (n : Nat) (R : PyData → Nat → Prop) : Prop := ∀ H0 S H s, Env K H0 S H s l → l[it]? = some (.town t n) → Same S H → ∀ Q : VK,
  (∀ v S' H' d n', R d n' → Grow (mt t) S H S' H' → TownAt H' t n' → Dp K S' v d → Q v H') → te s H Q
def EvXT (K : PySem.W.Frag) (tt : TT) (l : List Sl) (it : Nat) (t : Addr) (n : Nat) (R : Bool → Nat → Prop) : Prop := ∀ H0 S H s, Env K H0 S H s l → l[it]? = some (.town t n) → Same S H → ∀ Q : Bool → Hp → Prop,
  (∀ S' H' b n', R b n' → Grow (mt t) S H S' H' → TownAt H' t n' → Q b H') → tt s H Q
def EvXA (K : PySem.W.Frag) (ta : TA) (l : List Sl) (it : Nat) (t : Addr) (n : Nat) (R : List PyData → Nat → Prop) : Prop := ∀ H0 S H s, Env K H0 S H s l → l[it]? = some (.town t n) → Same S H → ∀ Q : List V → Hp → Prop,
  (∀ v S' H' d n', R d n' → Grow (mt t) S H S' H' → TownAt H' t n' → DpAll K S' v d → Q v H') → ta s H Q
def EvXI (K : PySem.W.Frag) (wi : TI) (l : List Sl) (it : Nat) (t : Addr) (n : Nat) (RI : List PyData → Nat → Prop) : Prop := ∀ H0 S H s, Env K H0 S H s l → l[it]? = some (.town t n) → Same S H → ∀ R : It → Hp → Prop,
  (∀ J S' H' ds n', RI ds n' → Grow (mt t) S H S' H' → TownAt H' t n' → WalkD K J S' ds → R J H') → wi s H R
section
variable {K : PySem.W.Frag} {l l' : List Sl} {ta tb te : TE} {tt tu : TT} {a b c d : PyData} {r : R2} {ds : List PyData} {i it n n' : Nat} {t o : Addr} {H0 S H S' H' : Hp} {s : L2.St}
theorem Env.townAt (e : Env K H0 S H s l) (h : l[it]? = some (.town t n)) : TownAt H t n := by
  obtain ⟨v, _, _, _, q⟩ := e.ok it _ h
  exact q
theorem TownAt.grow (h : TownAt H t n) (g : Grow m0 S H S' H') : TownAt H' t n := by
  obtain ⟨ns, a, b⟩ := h
  exact ⟨ns, g.all _ _ a, b⟩
theorem Env.town (e : Env K H0 S H s l) (h : l[it]? = some (.town t n)) (g : Grow (mt t) S H S' H') (ht : TownAt H' t n') : Env K H0 S' H' s (l.set it (.town t n')) := by
  refine e.put h rfl rfl g.s g.n (fun b u hb hu => g.k b u hb hu) fun v ok => ?_
  obtain ⟨e1, e2, ns, e3, e4⟩ := ok
  exact ⟨e1, g.n t e2 (some_ne e3), ht⟩
theorem town_at (h : l[it]? = some (.town t n)) : (l.set it (.town t n'))[it]? = some (.town t n') := List.getElem?_set_self (List.getElem?_eq_some_iff.mp h).1
theorem ex_mono {R R' : PyData → Nat → Prop} (h : EvX K te l it t n R) (f : ∀ d n', R d n' → R' d n') : EvX K te l it t n R' := fun H0 S H s e hl hs Q q => h H0 S H s e hl hs Q fun v S' H' d n' r => q v S' H' d n' (f d n' r)
theorem ext_mono {R R' : Bool → Nat → Prop} (h : EvXT K tt l it t n R) (f : ∀ d n', R d n' → R' d n') : EvXT K tt l it t n R' := fun H0 S H s e hl hs Q q => h H0 S H s e hl hs Q fun S' H' d n' r => q S' H' d n' (f d n' r)
theorem ex_ev (h : Ev K te l d) : EvX K te l it t n (fun d' n' => d = d' ∧ n = n') := fun H0 S H s e hl hs Q q => h H0 S H s e hs Q fun v S' H' g d1 => q v S' H' d n ⟨rfl, rfl⟩ g.any ((e.townAt hl).grow g) d1
theorem ext_ev {k : Bool} (h : EvT K tt l k) : EvXT K tt l it t n (fun d' n' => k = d' ∧ n = n') := fun H0 S H s e hl hs Q q => h H0 S H s e hs Q fun S' H' g => q S' H' k n ⟨rfl, rfl⟩ g.any ((e.townAt hl).grow g)
theorem exa_ev {ta : TA} (h : EvA K ta l ds) : EvXA K ta l it t n (fun d' n' => ds = d' ∧ n = n') := fun H0 S H s e hl hs Q q => h H0 S H s e hs Q fun v S' H' g d1 => q v S' H' ds n ⟨rfl, rfl⟩ g.any ((e.townAt hl).grow g) d1
theorem exi_ev {wi : TI} (h : EvI K wi l ds) : EvXI K wi l it t n (fun d' n' => ds = d' ∧ n = n') := fun H0 S H s e hl hs Q q => h H0 S H s e hs Q fun J S' H' g w => q J S' H' ds n ⟨rfl, rfl⟩ g.any ((e.townAt hl).grow g) w
theorem ex_op {R1 : PyData → Nat → Prop} {R2 : PyData → Nat → PyData → Nat → Prop} {f : PyData → PyData → PyData} (ha : EvX K ta l it t n R1) (hb : ∀ a n1, R1 a n1 → EvX K tb (l.set it (.town t n1)) it t n1 (R2 a n1))
    (hr : ∀ a n1 b n2, R1 a n1 → R2 a n1 b n2 → RD K r a b (f a b)) : EvX K (tOp r ta tb) l it t n (fun d n' => ∃ a n1 b, R1 a n1 ∧ R2 a n1 b n' ∧ d = f a b) := fun H0 S H s e hl hs Q q =>
  ha H0 S H s e hl hs _ fun x S1 H1 a n1 r1 g1 t1 d1 => hb a n1 r1 H0 S1 H1 s (e.town hl g1 t1) (town_at hl) g1.f _ fun y S2 H2 b n2 r2 g2 t2 d2 =>
    hr a n1 b n2 r1 r2 x y S2 H2 Q g2.f (Dp_mono d1 g2.s) d2 fun v S3 H3 g3 d3 => q v S3 H3 (f a b) n2 ⟨a, n1, b, r1, r2, rfl⟩ ((g1.trans g2).trans g3.any) (t2.grow g3) d3
theorem exa_nil : EvXA K tNil l it t n (fun d' n' => [] = d' ∧ n = n') := exa_ev ea_nil
theorem exa_cons {tr : TA} {R1 : PyData → Nat → Prop} {R2 : PyData → Nat → List PyData → Nat → Prop} (ha : EvX K ta l it t n R1) (hr : ∀ a n1, R1 a n1 → EvXA K tr (l.set it (.town t n1)) it t n1 (R2 a n1)) :
    EvXA K (tCons ta tr) l it t n (fun d n' => ∃ a n1 as, R1 a n1 ∧ R2 a n1 as n' ∧ d = a :: as) := fun H0 S H s e hl hs Q q =>
  ha H0 S H s e hl hs _ fun x S1 H1 a n1 r1 g1 t1 d1 => hr a n1 r1 H0 S1 H1 s (e.town hl g1 t1) (town_at hl) g1.f _ fun y S2 H2 b n2 r2 g2 t2 d2 =>
    q _ S2 H2 _ n2 ⟨a, n1, b, r1, r2, rfl⟩ (g1.trans g2) t2 (.cons (Dp_mono d1 g2.s) d2)
theorem ex_tup {tr : TA} {R1 : List PyData → Nat → Prop} (ha : EvXA K tr l it t n R1) (hz : ∀ ds n', R1 ds n' → ds.length ≤ 100000) : EvX K (tTup tr) l it t n (fun d n' => ∃ ds, R1 ds n' ∧ d = .tuple ds) := fun H0 S H s e hl hs Q q =>
  ha H0 S H s e hl hs _ fun xs S1 H1 as n1 r1 g1 t1 d1 => ⟨szl (by rw [DpAll_len d1]; exact hz as n1 r1), new_tup g1.f d1 fun v S' H' g d => q v S' H' _ n1 ⟨as, r1, rfl⟩ (g1.trans g.any) (t1.grow g) d⟩
theorem ex_lst {tr : TA} {R1 : List PyData → Nat → Prop} (ha : EvXA K tr l it t n R1) (hz : ∀ ds n', R1 ds n' → ds.length ≤ 100000) : EvX K (tLst tr) l it t n (fun d n' => ∃ ds, R1 ds n' ∧ d = .list ds) := fun H0 S H s e hl hs Q q =>
  ha H0 S H s e hl hs _ fun xs S1 H1 as n1 r1 g1 t1 d1 => ⟨szl (by rw [DpAll_len d1]; exact hz as n1 r1), new_lst g1.f d1 fun v S' H' g d => q v S' H' _ n1 ⟨as, r1, rfl⟩ (g1.trans g.any) (t1.grow g) d⟩
theorem ex_cb {tr : TA} {rr : List V → Hp → VK → Prop} {R1 : List PyData → Nat → Prop} {f : List PyData → PyData} (ha : EvXA K tr l it t n R1) (hr : ∀ as n1, R1 as n1 → RCD K rr as (f as)) : EvX K (tCB rr tr) l it t n (fun d n' => ∃ as, R1 as n' ∧ d = f as) := fun H0 S H s e hl hs Q q =>
  ha H0 S H s e hl hs _ fun xs S1 H1 as n1 r1 g1 t1 d1 => hr as n1 r1 xs S1 H1 Q g1.f d1 fun v S' H' g d => q v S' H' _ n1 ⟨as, r1, rfl⟩ (g1.trans g.any) (t1.grow g) d
theorem ex_call {tr : TA} {sp : Sp} {E : XK} {R1 : List PyData → Nat → Prop} {f : List PyData → PyData} (ha : EvXA K tr l it t n R1) (hr : ∀ as n1, R1 as n1 → SpD K sp as (f as)) : EvX K (tCall sp [] E tr) l it t n (fun d n' => ∃ as, R1 as n' ∧ d = f as) := fun H0 S H s e hl hs Q q =>
  ha H0 S H s e hl hs _ fun xs S1 H1 as n1 r1 g1 t1 d1 => hr as n1 r1 (xs ++ []) S1 H1 Q E g1.f (by rw [List.append_nil]; exact d1) fun v S' H' g d => q v S' H' _ n1 ⟨as, r1, rfl⟩ (g1.trans g.any) (t1.grow g) d
/-- a def that draws: script, town, as -/
def SpT (K : PySem.W.Frag) (sp : Sp) (sc : PyData) (as : List PyData) (n : Nat) (R : PyData → Nat → Prop) : Prop := ∀ v0 t vs S H (Q : VK) (E : XK), Same S H → Dp K S v0 sc → S t = none → TownAt H t n → DpAll K S vs as →
  (∀ v S' H' d n', R d n' → Grow (mt t) S H S' H' → TownAt H' t n' → Dp K S' v d → Q v H') → sp (v0 :: .ref t :: vs) H Q E
/-- its promise; pre of the script, the other arguments, the town's length -/
def spT (K : PySem.W.Frag) (pre : PyData → List PyData → Nat → Prop) (res : List PyData → Nat → PyData → Nat → Prop) : Sp := fun vs H Q _ => ∃ S v0 t ws sc as n, vs = v0 :: .ref t :: ws ∧ Same S H ∧ Dp K S v0 sc ∧ S t = none ∧ TownAt H t n ∧ DpAll K S ws as ∧ pre sc as n ∧
  ∀ v S' H' d n', res as n d n' → Grow (mt t) S H S' H' → TownAt H' t n' → Dp K S' v d → Q v H'
theorem spT_of {pre : PyData → List PyData → Nat → Prop} {res : List PyData → Nat → PyData → Nat → Prop} {sc : PyData} {as : List PyData} (hp : pre sc as n) : SpT K (spT K pre res) sc as n (res as n) := fun v0 t vs S H Q E hs h0 ht h1 hv q => ⟨S, v0, t, vs, sc, as, n, rfl, hs, h0, ht, h1, hv, hp, q⟩
theorem ex_callT {tr : TA} {sp : Sp} {E : XK} {i0 : Nat} {sc : PyData} {R1 : List PyData → Nat → Prop} {R2 : List PyData → Nat → PyData → Nat → Prop} (h0 : l[i0]? = some (.dat sc)) (h1 : l[it]? = some (.town t n)) (ha : EvXA K tr l it t n R1) (hr : ∀ as n1, R1 as n1 → SpT K sp sc as n1 (R2 as n1)) :
    EvX K (tCall sp [] E (tCons (tVar i0) (tCons (tVar it) tr))) l it t n (fun d n' => ∃ as n1, R1 as n1 ∧ R2 as n1 d n') := fun H0 S H s e hl hs Q q => by
  obtain ⟨v, hv, w0, rfl, hd0⟩ := e.ok i0 _ h0
  obtain ⟨v2, hv2, rfl, ht, _⟩ := e.ok it _ h1
  refine ⟨w0, hv, .ref t, hv2, ha H0 S H s e hl hs _ fun xs S1 H1 as n1 r1 g1 t1 d1 => ?_⟩
  show sp ((w0 :: .ref t :: xs) ++ []) H1 Q E
  rw [List.append_nil]
  exact hr as n1 r1 w0 t xs S1 H1 Q E g1.f (Dp_mono hd0 g1.s) (g1.n t ht (by obtain ⟨ns, q, _⟩ := e.townAt hl; exact some_ne q)) t1 d1 fun v S' H' d n' r2 g t2 dd => q v S' H' d n' ⟨as, n1, r1, r2⟩ (g1.trans g) t2 dd
theorem ext_test {R : PyData → Nat → Prop} {f : PyData → Bool} (h : EvX K te l it t n R) (hf : ∀ d n', R d n' → d = .bool (f d)) : EvXT K (tTest te) l it t n (fun b n' => ∃ d, R d n' ∧ b = f d) := fun H0 S H s e hl hs Q q =>
  h H0 S H s e hl hs _ fun v S' H' d n' r g t1 d1 => by
    have e := hf d n' r
    generalize hk : f d = k at e
    subst e
    cases d1
    exact ⟨k, rfl, q S' H' k n' ⟨_, r, hk.symm⟩ g t1⟩
theorem ext_not {R : Bool → Nat → Prop} (h : EvXT K tt l it t n R) : EvXT K (tNot tt) l it t n (fun b n' => ∃ c, R c n' ∧ b = !c) := fun H0 S H s e hl hs Q q => h H0 S H s e hl hs _ fun S' H' d n' r g t1 => q S' H' _ n' ⟨d, r, rfl⟩ g t1
theorem ext_or {R1 : Bool → Nat → Prop} {R2 : Nat → Bool → Nat → Prop} (h1 : EvXT K tt l it t n R1) (h2 : ∀ n1, R1 false n1 → EvXT K tu (l.set it (.town t n1)) it t n1 (R2 n1)) :
    EvXT K (tOr tt tu) l it t n (fun b n' => (b = true ∧ R1 true n') ∨ ∃ n1, R1 false n1 ∧ R2 n1 b n') := fun H0 S H s e hl hs Q q =>
  h1 H0 S H s e hl hs _ fun S1 H1 k n1 r g t1 => by
    cases k with
    | true => rw [if_pos rfl]; exact q S1 H1 true n1 (.inl ⟨rfl, r⟩) g t1
    | false => rw [if_neg Bool.false_ne_true]; exact h2 n1 r H0 S1 H1 s (e.town hl g t1) (town_at hl) g.f Q fun S2 H2 b n2 r2 g2 t2 => q S2 H2 b n2 (.inr ⟨n1, r, r2⟩) (g.trans g2) t2
theorem ext_and {R1 : Bool → Nat → Prop} {R2 : Nat → Bool → Nat → Prop} (h1 : EvXT K tt l it t n R1) (h2 : ∀ n1, R1 true n1 → EvXT K tu (l.set it (.town t n1)) it t n1 (R2 n1)) :
    EvXT K (tAnd tt tu) l it t n (fun b n' => (b = false ∧ R1 false n') ∨ ∃ n1, R1 true n1 ∧ R2 n1 b n') := fun H0 S H s e hl hs Q q =>
  h1 H0 S H s e hl hs _ fun S1 H1 k n1 r g t1 => by
    cases k with
    | false => rw [if_neg Bool.false_ne_true]; exact q S1 H1 false n1 (.inl ⟨rfl, r⟩) g t1
    | true => rw [if_pos rfl]; exact h2 n1 r H0 S1 H1 s (e.town hl g t1) (town_at hl) g.f Q fun S2 H2 b n2 r2 g2 t2 => q S2 H2 b n2 (.inr ⟨n1, r, r2⟩) (g.trans g2) t2
theorem ex_if {R1 : Bool → Nat → Prop} {R2 R3 : Nat → PyData → Nat → Prop} (h : EvXT K tt l it t n R1) (h1 : ∀ n1, R1 true n1 → EvX K ta (l.set it (.town t n1)) it t n1 (R2 n1)) (h2 : ∀ n1, R1 false n1 → EvX K tb (l.set it (.town t n1)) it t n1 (R3 n1)) :
    EvX K (tIf tt ta tb) l it t n (fun d n' => ∃ n1, (R1 true n1 ∧ R2 n1 d n') ∨ (R1 false n1 ∧ R3 n1 d n')) := fun H0 S H s e hl hs Q q =>
  h H0 S H s e hl hs _ fun S1 H1 k n1 r g t1 => by
    cases k with
    | true => rw [if_pos rfl]; exact h1 n1 r H0 S1 H1 s (e.town hl g t1) (town_at hl) g.f Q fun v S2 H2 b n2 r2 g2 t2 d2 => q v S2 H2 b n2 ⟨n1, .inl ⟨r, r2⟩⟩ (g.trans g2) t2 d2
    | false => rw [if_neg Bool.false_ne_true]; exact h2 n1 r H0 S1 H1 s (e.town hl g t1) (town_at hl) g.f Q fun v S2 H2 b n2 r2 g2 t2 d2 => q v S2 H2 b n2 ⟨n1, .inr ⟨r, r2⟩⟩ (g.trans g2) t2 d2
/-- range(n), n drawn -/
theorem exi_rng1 {R : PyData → Nat → Prop} {f : PyData → Int} (h : EvX K te l it t n R) (hf : ∀ d n', R d n' → d = .int (f d) ∧ -100000 ≤ f d ∧ f d ≤ 100000) : EvXI K (iRng1 (tCons te tNil)) l it t n (fun ds n' => ∃ d, R d n' ∧ ds = rng 0 (f d).toNat) := fun H0 S H s e hl hs Q q =>
  h H0 S H s e hl hs _ fun v S1 H1 d n1 r g1 t1 d1 => by
    obtain ⟨e1, e2, e3⟩ := hf d n1 r
    generalize hk : f d = k at e1 e2 e3
    subst e1
    cases d1
    exact ⟨k, rfl, by omega, by omega, q _ S1 H1 _ n1 ⟨_, r, by rw [hk]⟩ g1 t1 walkR⟩
theorem wipeL_get {j : Nat} : ∀ {vs : List Nat}, j ∉ vs → (wipeL l vs)[j]? = l[j]?
  | [], _ => rfl
  | v :: vs, h => by
    show ((wipeL l vs).set v .no)[j]? = _
    have hv : v ≠ j := fun e => h (by rw [e]; exact List.mem_cons_self)
    rw [List.getElem?_set_ne hv]
    exact wipeL_get fun z => h (List.mem_cons_of_mem _ z)
theorem ex_lc {wi : TI} {g : TG} {tt : TT} {vs : List Nat} {RI : List PyData → Nat → Prop} (I : List PyData → Nat → List PyData → Nat → Prop) (hi : EvXI K wi l it t n RI) (hg : GIn g vs)
    (hm : ∀ v s H (Q Q' : L2.St → Hp → Prop), (∀ s' H', Q s' H' → Q' s' H') → g v s H Q → g v s H Q') (hz : ∀ ds n', RI ds n' → ds.length ≤ 100000 ∧ I ds 0 [] n')
    (step : ∀ ds i d acc n1, (∃ n0, RI ds n0) → ds[i]? = some d → I ds i acc n1 → ∃ lb, Bd K g (wipeL (l.set it (.town t n1)) vs) d lb ∧ lb[it]? = some (.town t n1) ∧
      EvXT K tt lb it t n1 (fun b n2 => (b = false → I ds (i + 1) acc n2) ∧ (b = true → EvX K te (lb.set it (.town t n2)) it t n2 (fun e n3 => I ds (i + 1) (acc ++ [e]) n3)))) :
    EvX K (tLc wi g tt te vs) l it t n (fun d n' => ∃ ds acc, (∃ n0, RI ds n0) ∧ I ds ds.length acc n' ∧ d = .list acc) := fun H0 S H s e hl hs Q k => by
  refine hi H0 S H s e hl hs _ fun J S1 H1 ds n0 r0 g1 t1 w => ?_
  obtain ⟨hz1, hI0⟩ := hz ds n0 r0
  intro D hD
  have tD : ∀ n', TownAt H1 t n' → D ≠ t := fun n' h z => by
    obtain ⟨ns, q, _⟩ := h
    rw [← z, hD] at q
    cases q
  have hDt := tD n0 t1
  have out : Grow (mt t) S1 H1 S1 (upd H1 D (.lst [])) := Grow.out g1.f hD
  refine ⟨fun i m H2 => m = ds.length - i ∧ i ≤ ds.length ∧ ∃ S' xs acc n1, Grow (mt t) S1 H1 S' H2 ∧ S' D = none ∧ H2 D = some (.lst xs) ∧ DpAll K S' xs acc ∧ acc.length ≤ i ∧ TownAt H2 t n1 ∧ I ds i acc n1,
    ⟨ds.length, by simp, Nat.zero_le _, S1, [], [], n0, out, g1.f.free hD, upd_same, .nil, Nat.le_refl _, ?_, hI0⟩, ?_⟩
  · obtain ⟨ns, q1, q2⟩ := t1
    exact ⟨ns, by rw [upd_ne hDt.symm]; exact q1, q2⟩
  rintro i m H2 ⟨rfl, hle, S', xs, acc, n1, g2, sD, hD2, hacc, hal, t2, hI⟩
  by_cases hlt : i < ds.length
  · refine .inr ⟨w.go i H2 hlt (g2.s.trans g2.f), fun H3 => i + 1 ≤ ds.length ∧ ∃ S' xs acc n1, Grow (mt t) S1 H1 S' H3 ∧ S' D = none ∧ H3 D = some (.lst xs) ∧ DpAll K S' xs acc ∧ acc.length ≤ i + 1 ∧ TownAt H3 t n1 ∧ I ds (i + 1) acc n1, fun H3 ⟨q1, q2⟩ => ⟨ds.length - (i + 1), by omega, rfl, q1, q2⟩, fun x H3 y => ?_⟩
    have hd : ds[i]? = some ds[i] := List.getElem?_eq_getElem hlt
    obtain ⟨S3, g3, d3⟩ := w.yld i H2 x H3 ds[i] S' hd g2.s g2.f y
    have sD3 : S3 D = none := g3.n D sD (some_ne hD2)
    have hD3 : H3 D = some (.lst xs) := g3.all D _ hD2
    have t3 : TownAt H3 t n1 := t2.grow g3
    have g13 : Grow (mt t) S H S3 H3 := (g1.trans g2).trans g3.any
    have e3 : Env K H0 S3 H3 (wipe s vs) (wipeL (l.set it (.town t n1)) vs) := Env.wipe (e.town hl g13 t3) vs
    obtain ⟨lb, hb, hlb, ht⟩ := step ds i ds[i] acc n1 ⟨n0, r0⟩ hd hI
    have bnd := hb H0 S3 H3 (wipe s vs) x (fun s' H' => H' = H3 ∧ Env K H0 S3 H3 s' lb) e3 g3.f d3 fun s' e' => ⟨rfl, e'⟩
    refine hm _ _ _ _ _ ?_ (hg x (wipe s vs) H3 _ bnd)
    rintro s2 H4 ⟨hw, rfl, e4⟩
    have hw' : wipe s2 vs = wipe s vs := by
      rw [hw]
      apply List.ext_getElem?
      intro j
      rw [wipe_get, wipe_get, wipe_length]
      by_cases hj : j ∈ vs
      · rw [if_pos hj, if_pos hj]
      · rw [if_neg hj, if_neg hj]
    refine ⟨hw', ?_⟩
    refine ht H0 S3 H4 s2 e4 hlb g3.f _ fun S5 H5 b n2 rb g5 t5 => ?_
    have sD5 : S5 D = none := g5.n D sD3 (some_ne hD3)
    have hD5 : H5 D = some (.lst xs) := g5.k D _ hDt hD3
    cases b with
    | false =>
      rw [if_neg Bool.false_ne_true]
      exact ⟨hlt, S5, xs, acc, n2, (g2.trans g3.any).trans g5, sD5, hD5, DpAll_mono hacc (g3.s.trans g5.s), by omega, t5, rb.1 rfl⟩
    | true =>
      rw [if_pos rfl]
      refine rb.2 rfl H0 S5 H5 s2 (e4.town hlb g5 t5) (town_at hlb) g5.f _ fun y2 S6 H6 d6' n3 r6 g6 t6 d6 => ?_
      have sD6 : S6 D = none := g6.n D sD5 (some_ne hD5)
      have hD6 : H6 D = some (.lst xs) := g6.k D _ hDt hD5
      have gg : Grow (mt t) S1 H1 S6 H6 := ((g2.trans g3.any).trans g5).trans g6
      have hl := DpAll_len hacc
      refine ⟨xs, hD6, szt (by omega), hlt, S6, xs ++ [y2], acc ++ [d6'], n3, gg.putNew hD sD6 (some_ne hD6), sD6, upd_same, DpAll_app (DpAll_mono hacc ((g3.s.trans g5.s).trans g6.s)) (.cons d6 .nil), by rw [List.length_append]; simp; omega, ?_, r6⟩
      obtain ⟨ns, q1, q2⟩ := t6
      exact ⟨ns, by rw [upd_ne hDt.symm]; exact q1, q2⟩
  · have ei : i = ds.length := by omega
    subst ei
    have hDH : H D = none := by
      cases hq : H D with
      | none => rfl
      | some u => exact absurd hD (g1.d D (some_ne hq))
    have gt := (g1.trans g2).take hDH hD2 sD
    exact .inl ⟨w.stop H2 (g2.s.trans g2.f), k (.ref D) _ H2 (.list acc) n1 ⟨ds, acc, ⟨n0, r0⟩, hI, rfl⟩ gt t2 (.lst (.inl (.inl upd_same)) (DpAll_mono hacc (same_up sD)))⟩
end
section
variable {C : Cn} {l l' : List Sl} {ta tb te : TE} {tt : TT} {a b c d : PyData} {ds : List PyData} {i it n : Nat} {o t : Addr} {s : L2.St} {H : Hp} {D : Ends} {tu tv : TS}
theorem tw_town {m : Addr → Prop} {n' : Nat} (h : ∀ t n, Sl.town t n ∈ l → m t) (hi : l[it]? = some (.town t n)) : ∀ t' k, Sl.town t' k ∈ l.set it (.town t n') → m t' := fun t' k hm => by
  rcases List.mem_or_eq_of_mem_set hm with q | q
  · exact h t' k q
  · cases q
    exact h t n (List.mem_of_getElem? hi)
theorem At.stepX {R : PyData → Nat → Prop} (h : At C l s H) (hi : l[it]? = some (.town t n)) (he : EvX C.K te l it t n R) {Q : VK} (q : ∀ v S' H' d n', R d n' → Grow C.m C.S0 C.H0 S' H' → Env C.K C.H0 S' H' s (l.set it (.town t n')) → Same C.Sb S' → Dp C.K S' v d → Q v H') : te s H Q := by
  obtain ⟨S, g, e, b⟩ := h.ex
  have hm : C.m t := h.tw t n (List.mem_of_getElem? hi)
  exact he C.H0 S H s e hi g.f Q fun v S' H' d n' r g1 t1 d1 => q v S' H' d n' r (g.trans (g1.mono fun x hx => by cases hx; exact hm)) (e.town hi g1 t1) (b.trans g1.s) d1
theorem dx_asg {R : PyData → Nat → Prop} (h : At C l s H) (hi : l[it]? = some (.town t n)) (he : EvX C.K te l it t n R) (k : ∀ d n' s' H', R d n' → At C ((l.set it (.town t n')).set i (.dat d)) s' H' → D.nx s' H') : tAsg te (gName i) D s H :=
  h.stepX hi he fun v S' H' d n' r g e b d1 => k d n' _ _ r ⟨⟨S', g, e.dat d1, b⟩, tw_set (tw_town h.tw hi) fun _ _ z => nomatch z⟩
theorem dx_ret {R : PyData → Nat → Prop} (h : At C l s H) (hi : l[it]? = some (.town t n)) (he : EvX C.K te l it t n R) (k : ∀ v S' H' d n', R d n' → Grow C.m C.S0 C.H0 S' H' → TownAt H' t n' → Dp C.K S' v d → D.rt v H') : tRet te D s H :=
  h.stepX hi he fun v S' H' d n' r g e b d1 => k v S' H' d n' r g (e.townAt (town_at hi)) d1
theorem dx_drop {R : PyData → Nat → Prop} (h : At C l s H) (hi : l[it]? = some (.town t n)) (he : EvX C.K te l it t n R) (k : ∀ d n' H', R d n' → At C (l.set it (.town t n')) s H' → D.nx s H') : tDrop te D s H :=
  h.stepX hi he fun v S' H' d n' r g e b d1 => k d n' H' r ⟨⟨S', g, e, b⟩, tw_town h.tw hi⟩
theorem dx_if {R : Bool → Nat → Prop} (h : At C l s H) (hi : l[it]? = some (.town t n)) (he : EvXT C.K tt l it t n R) (h1 : ∀ n' H', R true n' → At C (l.set it (.town t n')) s H' → tu D s H') (h2 : ∀ n' H', R false n' → At C (l.set it (.town t n')) s H' → tv D s H') : tIfS tt tu tv D s H := by
  obtain ⟨S, g, e, b⟩ := h.ex
  have hm : C.m t := h.tw t n (List.mem_of_getElem? hi)
  refine he C.H0 S H s e hi g.f _ fun S' H' k n' r g1 t1 => ?_
  have h' : At C (l.set it (.town t n')) s H' := ⟨⟨S', g.trans (g1.mono fun x hx => by cases hx; exact hm), e.town hi g1 t1, b.trans g1.s⟩, tw_town h.tw hi⟩
  cases k with
  | true =>
    show tu D s H'
    exact h1 n' H' r h'
  | false =>
    show tv D s H'
    exact h2 n' H' r h'
theorem dx_app {R : PyData → Nat → Prop} {j : Nat} (h : At C l s H) (hi : l[it]? = some (.town t n)) (hj : l[j]? = some (.own o ds)) (he : EvX C.K te l it t n R) (hz : ds.length < 100000) (hne : j ≠ it)
    (k : ∀ d n' H', R d n' → At C ((l.set it (.town t n')).set j (.own o (ds ++ [d]))) s H' → D.nx s H') : tDrop (tBM C.K "list" rAppend (tVar j) (tCons te tNil)) D s H := by
  obtain ⟨S, g, e, b⟩ := h.ex
  obtain ⟨v, hv, rfl, h0, hS, xs, hx, hd⟩ := e.ok j _ hj
  have hm : C.m t := h.tw t n (List.mem_of_getElem? hi)
  have hot : o ≠ t := fun z => by
    subst z
    exact hne (nodup_eq (ys := []) e.nd hj hi rfl rfl)
  refine ⟨_, hv, .inl ⟨rfl, xs, .inl (.inl hx)⟩, he C.H0 S H s e hi g.f _ fun y S1 H1 d n' r g1 t1 d1 => ?_⟩
  refine ⟨o, xs, y, rfl, rfl, g1.k o _ hot hx, szt (by rw [DpAll_len hd]; exact hz), k d n' _ r ?_⟩
  exact At.put (H' := H1) (tw_town h.tw hi) (g.trans (g1.mono fun x hx => by cases hx; exact hm)) (e.town hi g1 t1) (b.trans g1.s) (by rw [List.getElem?_set_ne (Ne.symm hne)]; exact hj) (DpAll_app (DpAll_mono hd g1.s) (.cons d1 .nil))
end
end Dz
namespace Dz
open PySem PySem.SeqAt PyProof.Rows L2 RZ
section
variable {K : PySem.W.Frag} {l : List Sl} {te : TE} {d : PyData} {it n : Nat} {t : Addr}
/-- town[0] -/
theorem ex_town0 (h : l[it]? = some (.town t n)) (hn : 0 < n) : EvX K (tOp (rIx K) (tVar it) (tC (.int 0))) l it t n (fun d n' => (∃ x : Int, d = .int x) ∧ n = n') := fun H0 S H s e hl hs Q q => by
  obtain ⟨v, hv, rfl, hS, ns, ht, hle, hne⟩ := e.ok it _ h
  cases ns with
  | nil => exact absurd rfl (hne hn)
  | cons x r => exact ⟨_, hv, .inl ⟨t, _, 0, .int x, rfl, rfl, .inl (.inl ht), atI_nat (j := 0) rfl, q _ S H (.int x) n ⟨⟨x, rfl⟩, rfl⟩ (Grow.refl hs) (e.townAt hl) (.int x)⟩⟩
theorem ev_lenTown (h : l[it]? = some (.town t n)) : EvX K (tCB (rLenK K) (tCons (tVar it) tNil)) l it t n (fun d n' => (∃ x : Nat, d = .int x) ∧ n = n') := fun H0 S H s e hl hs Q q => by
  obtain ⟨v, hv, rfl, hS, ns, ht, hle, hne⟩ := e.ok it _ h
  exact ⟨_, hv, t, _, rfl, .inl (.inl (.inl ht)), q _ S H _ n ⟨⟨_, rfl⟩, rfl⟩ (Grow.refl hs) (e.townAt hl) (.int _)⟩
end
section
variable {C : Cn} {l : List Sl} {te tb : TE} {d : PyData} {it n : Nat} {t : Addr} {s : L2.St} {H : Hp} {D : Ends} {tu tv : TS}
theorem At.putT {S : Hp} {ys : List Int} {n' : Nat} (tw : ∀ t n, Sl.town t n ∈ l → C.m t) (g : Grow C.m C.S0 C.H0 S H) (e : Env C.K C.H0 S H s l) (b : Same C.Sb S) (hi : l[it]? = some (.town t n)) (hy : ys.length ≤ n') (h0 : 0 < n' → ys ≠ []) :
    At C (l.set it (.town t n')) s (upd H t (.lst (ys.map V.int))) := by
  obtain ⟨v, hv, rfl, hS, ns, ht, hle, hne⟩ := e.ok it _ hi
  have hm : C.m t := tw t n (List.mem_of_getElem? hi)
  have gm : Grow (mt t) S H S (upd H t (.lst (ys.map V.int))) := Grow.put g.f hS rfl (some_ne ht)
  exact ⟨⟨S, g.trans (gm.mono fun x hx => by cases hx; exact hm), e.town hi gm ⟨ys, upd_same, hy, h0⟩, b⟩, tw_town tw hi⟩
/-- town.append(x) -/
theorem dt_app {x : Int} (h : At C l s H) (hi : l[it]? = some (.town t n)) (he : Ev C.K te l (.int x)) (hz : n < 100000) (k : ∀ H', At C (l.set it (.town t (n + 1))) s H' → D.nx s H') : tDrop (tBM C.K "list" rAppend (tVar it) (tCons te tNil)) D s H := by
  obtain ⟨S, g, e, b⟩ := h.ex
  obtain ⟨v, hv, rfl, hS, ns, ht, hle, hne⟩ := e.ok it _ hi
  refine ⟨_, hv, .inl ⟨rfl, _, .inl (.inl ht)⟩, he C.H0 S H s e g.f _ fun y S1 H1 g1 d1 => ?_⟩
  cases d1
  refine ⟨t, ns.map V.int, .int x, rfl, rfl, g1.all t _ ht, szt (by rw [List.length_map]; omega), k _ ?_⟩
  have e2 : ns.map V.int ++ [V.int x] = (ns ++ [x]).map V.int := by simp
  rw [e2]
  exact At.putT h.tw (g.trans g1.any) (e.grow g1) (b.trans g1.s) hi (by simp; omega) (fun _ z => by simp at z)
/-- if not town: town.append(x) -/
theorem dt_if {x : Int} (h : At C l s H) (hi : l[it]? = some (.town t n)) (he : Ev C.K te l (.int x)) (hz : n < 100000) (k : ∀ H', At C (l.set it (.town t (n + 1))) s H' → D.nx s H') :
    tIfS (tNot fun σ H Q => tVar it σ H fun x H' => ∃ k, TruV C.K x H' k ∧ Q k H') (tDrop (tBM C.K "list" rAppend (tVar it) (tCons te tNil))) tNext D s H := by
  obtain ⟨S, g, e, b⟩ := h.ex
  obtain ⟨v, hv, rfl, hS, ns, ht, hle, hne⟩ := e.ok it _ hi
  refine ⟨_, hv, _, .inl ⟨_, .inl (.inl ht), rfl⟩, ?_⟩
  cases ns with
  | nil =>
    rw [if_pos (by rfl)]
    exact dt_app h hi he hz k
  | cons z r =>
    rw [if_neg (by simp)]
    show D.nx s H
    refine k H ⟨⟨S, g, ?_, b⟩, tw_town h.tw hi⟩
    exact e.town hi (Grow.refl g.f) ⟨z :: r, ht, by omega, fun _ => by simp⟩
/-- town[0] = e -/
theorem dt_set0 {R : PyData → Nat → Prop} (h : At C l s H) (hi : l[it]? = some (.town t n)) (hn : 0 < n) (he : EvX C.K te l it t n R) (hR : ∀ d n', R d n' → (∃ x : Int, d = .int x) ∧ n = n') (k : ∀ H', At C l s H' → D.nx s H') : tAsg te (gSub (tVar it) (tC (.int 0)) rSetL) D s H := by
  obtain ⟨S, g, e, b⟩ := h.ex
  have hm : C.m t := h.tw t n (List.mem_of_getElem? hi)
  refine he C.H0 S H s e hi g.f _ fun y S1 H1 d n' r g1 t1 d1 => ?_
  obtain ⟨⟨x, rfl⟩, rfl⟩ := hR d n' r
  cases d1
  have e1 := e.town hi g1 t1
  obtain ⟨v, hv, rfl, hS, ns, ht, hle, hne⟩ := e1.ok it _ (town_at hi)
  cases ns with
  | nil => exact absurd rfl (hne hn)
  | cons z r =>
    refine ⟨_, hv, t, _, 0, 0, rfl, rfl, ht, by unfold ixN; rw [if_pos (by omega), if_pos (by simp)]; rfl, k _ ?_⟩
    have e2 : (List.map V.int (z :: r)).set 0 (V.int x) = (x :: r).map V.int := rfl
    rw [e2]
    have := At.putT (n' := n) (ys := x :: r) (tw_town h.tw hi) (g.trans (g1.mono fun x hx => by cases hx; exact hm)) e1 (b.trans g1.s) (town_at hi) (by simpa using hle) (fun _ => by simp)
    have es : (l.set it (.town t n)).set it (.town t n) = l := by
      rw [List.set_set]
      apply List.ext_getElem?
      intro j
      by_cases hj : it = j
      · subst hj
        rw [List.getElem?_set_self (List.getElem?_eq_some_iff.mp hi).1, hi]
      · rw [List.getElem?_set_ne hj]
    rw [es] at this
    exact this
end
end Dz
namespace Dz
open PySem L2
theorem d_seq {t u : TS} {D : Ends} {s : L2.St} {H : Hp} (h : t { D with nx := u D } s H) : tSeq t u D s H := h
theorem d_nx {N : L2.St → Hp → Prop} {r : VK} {b c : L2.St → Hp → Prop} {s : L2.St} {H : Hp} (h : N s H) : Ends.nx ⟨N, r, b, c⟩ s H := h
end Dz
namespace Dz
open PySem L2
section
variable {K : PySem.W.Frag} {l : List Sl} {tr : TA} {E : XK} {it n i0 : Nat} {t : Addr} {sc : PyData} {ds : List PyData}
theorem ex_dr {pre : PyData → List PyData → Nat → Prop} {res : List PyData → Nat → PyData → Nat → Prop} {R1 : List PyData → Nat → Prop} (h0 : l[i0]? = some (.dat sc)) (h1 : l[it]? = some (.town t n)) (ha : EvXA K tr l it t n R1) (hp : ∀ as n1, R1 as n1 → pre sc as n1) :
    EvX K (tCall (spT K pre res) [] E (tCons (tVar i0) (tCons (tVar it) tr))) l it t n (fun d n' => ∃ as n1, R1 as n1 ∧ res as n1 d n') := ex_callT h0 h1 ha fun as n1 r => spT_of (hp as n1 r)
theorem ev_f {pre : List PyData → Prop} {res : List PyData → PyData} (ha : EvA K tr l ds) (hp : pre ds) : Ev K (tCall (spF K pre res) [] E tr) l (res ds) := ev_call ha (sp_of hp rfl)
theorem ex_f {pre : List PyData → Prop} {res : List PyData → PyData} {R1 : List PyData → Nat → Prop} (ha : EvXA K tr l it t n R1) (hp : ∀ as n1, R1 as n1 → pre as) : EvX K (tCall (spF K pre res) [] E tr) l it t n (fun d n' => ∃ as, R1 as n' ∧ d = res as) := ex_call ha fun as n1 r => sp_of (hp as n1 r) rfl
end
end Dz

namespace Dz
open PySem PySem.SeqAt PyProof.Rows L2 RZ
section
variable {C : Cn} {l : List Sl} {ta tb te : TE} {a b d : PyData} {ds es : List PyData} {i j : Nat} {s : L2.St} {H : Hp} {D : Ends}
/-- a new object's place in the state -/
theorem At.own {S S' H' : Hp} {p : Addr} {xs : List V} (h : At C l s H) (g : Grow C.m C.S0 C.H0 S H) (e : Env C.K C.H0 S H s l) (b : Same C.Sb S) (g1 : Grow m0 S H S' H') (hp : H p = none) (sp : S' p = none) (hx : H' p = some (.lst xs)) (hd : DpAll C.K S' xs ds) :
    At C (l.set i (.own p ds)) (s.set i (some (.ref p))) H' := by
  have e' := e.grow g1
  have h0 : C.H0 p = none := by
    cases hq : C.H0 p with
    | none => rfl
    | some u => exact absurd hp (g.d p (some_ne hq))
  have hm : p ∉ muts l := fun z => (e.there z).1 hp
  exact ⟨⟨S', g.trans g1.any, e'.fresh rfl hm ⟨rfl, h0, sp, xs, hx, hd⟩, b.trans g1.s⟩, tw_set h.tw fun _ _ z => nomatch z⟩
/-- x, y = e1, e2: data and data; data and a new list; two new lists -/
theorem d_par (h : At C l s H) (ha : Ev C.K ta l a) (hb : Ev C.K tb l b) (k : ∀ s' H', At C ((l.set i (.dat a)).set j (.dat b)) s' H' → D.nx s' H') : tPar i j (tCons ta (tCons tb tNil)) D s H := by
  obtain ⟨S, g, e, b0⟩ := h.ex
  refine ha C.H0 S H s e g.f _ fun x S1 H1 g1 d1 => hb C.H0 S1 H1 s (e.grow g1) g1.f _ fun y S2 H2 g2 d2 => ⟨x, y, rfl, k _ _ ?_⟩
  exact ⟨⟨S2, g.trans (g1.trans g2).any, ((e.grow (g1.trans g2)).dat (Dp_mono d1 g2.s)).dat d2, b0.trans (g1.s.trans g2.s)⟩, tw_set (tw_set h.tw fun _ _ z => nomatch z) fun _ _ z => nomatch z⟩
theorem d_parDL (h : At C l s H) (ha : Ev C.K ta l a) (hb : EvL C.K tb l ds) (k : ∀ p s' H', At C ((l.set i (.dat a)).set j (.own p ds)) s' H' → D.nx s' H') : tPar i j (tCons ta (tCons tb tNil)) D s H := by
  obtain ⟨S, g, e, b0⟩ := h.ex
  refine ha C.H0 S H s e g.f _ fun x S1 H1 g1 d1 => hb C.H0 S1 H1 s (e.grow g1) g1.f _ fun p S2 H2 xs g2 hp sp hx hd => ⟨x, .ref p, rfl, k p _ _ ?_⟩
  have h1 : At C (l.set i (.dat a)) (s.set i (some x)) H1 := ⟨⟨S1, g.trans g1.any, (e.grow g1).dat d1, b0.trans g1.s⟩, tw_set h.tw fun _ _ z => nomatch z⟩
  exact h1.own (g.trans g1.any) ((e.grow g1).dat d1) (b0.trans g1.s) g2 hp sp hx hd
theorem d_parLL (h : At C l s H) (ha : EvL C.K ta l ds) (hb : EvL C.K tb l es) (k : ∀ p q s' H', At C ((l.set i (.own p ds)).set j (.own q es)) s' H' → D.nx s' H') : tPar i j (tCons ta (tCons tb tNil)) D s H := by
  obtain ⟨S, g, e, b0⟩ := h.ex
  refine ha C.H0 S H s e g.f _ fun p S1 H1 xs g1 hp sp hx hd => hb C.H0 S1 H1 s (e.grow g1) g1.f _ fun q S2 H2 ys g2 hq sq hy hd2 => ⟨.ref p, .ref q, rfl, k p q _ _ ?_⟩
  have h1 : At C (l.set i (.own p ds)) (s.set i (some (.ref p))) H1 := h.own g e b0 g1 hp sp hx hd
  have h0 : C.H0 p = none := by
    cases hq : C.H0 p with
    | none => rfl
    | some u => exact absurd hp (g.d p (some_ne hq))
  have hm : p ∉ muts l := fun z => (e.there z).1 hp
  exact h1.own (g.trans g1.any) ((e.grow g1).fresh rfl hm ⟨rfl, h0, sp, xs, hx, hd⟩) (b0.trans g1.s) g2 hq sq hy hd2
theorem own_put {o : Addr} {S : Hp} {ys : List V} (g : Grow C.m C.S0 C.H0 S H) (e : Env C.K C.H0 S H s l) (hi : l[i]? = some (.own o ds)) (hd : DpAll C.K S ys es) :
    Grow C.m C.S0 C.H0 S (upd H o (.lst ys)) ∧ Env C.K C.H0 S (upd H o (.lst ys)) s (l.set i (.own o es)) := by
  obtain ⟨v, hv, rfl, h0, hS, xs, hx, _⟩ := e.ok i _ hi
  have hk : ∀ c w, c ≠ o → H c = some w → upd H o (.lst ys) c = some w := fun c w hc hw => by rw [upd_ne hc]; exact hw
  refine ⟨g.putNew h0 hS (some_ne hx), e.put hi rfl rfl (Same.refl S) (fun _ z _ => z) hk fun v ok => ?_⟩
  obtain ⟨e1, e2, e3, _⟩ := ok
  exact ⟨e1, e2, e3, ys, upd_same, hd⟩
/-- xs.append(ys.pop(n)), n drawn -/
theorem dx_appPop {it i2 n : Nat} {t o1 o2 : Addr} {R : PyData → Nat → Prop} (h : At C l s H) (hi : l[it]? = some (.town t n)) (h1 : l[i]? = some (.own o1 ds)) (h2 : l[i2]? = some (.own o2 es)) (he : EvX C.K te l it t n R) (hz : es.length < 100000) (hz1 : ds.length ≤ 100000)
    (hne : i ≠ it) (hne2 : i2 ≠ it) (hne3 : i ≠ i2) (hR : ∀ d n', R d n' → ∃ q : Nat, d = .int q ∧ q < ds.length)
    (k : ∀ (q : Nat) (hq : q < ds.length) n' H', R (.int q) n' → At C (((l.set it (.town t n')).set i (.own o1 (ds.eraseIdx q))).set i2 (.own o2 (es ++ [ds[q]]))) s H' → D.nx s H') :
    tDrop (tBM C.K "list" rAppend (tVar i2) (tCons (tBM C.K "list" rPopAt (tVar i) (tCons te tNil)) tNil)) D s H := by
  obtain ⟨S, g, e, b⟩ := h.ex
  obtain ⟨v1, hv1, rfl, h01, hS1, xs1, hx1, hd1⟩ := e.ok i _ h1
  obtain ⟨v2, hv2, rfl, h02, hS2, xs2, hx2, hd2⟩ := e.ok i2 _ h2
  have hm : C.m t := h.tw t n (List.mem_of_getElem? hi)
  have ot1 : o1 ≠ t := fun z => by
    subst z
    exact hne (nodup_eq (ys := []) e.nd h1 hi rfl rfl)
  have ot2 : o2 ≠ t := fun z => by
    subst z
    exact hne2 (nodup_eq (ys := []) e.nd h2 hi rfl rfl)
  have o12 : o2 ≠ o1 := fun z => by
    subst z
    exact hne3 (nodup_eq (ys := []) e.nd h1 h2 rfl rfl)
  refine ⟨_, hv2, .inl ⟨rfl, xs2, .inl (.inl hx2)⟩, _, hv1, .inl ⟨rfl, xs1, .inl (.inl hx1)⟩, he C.H0 S H s e hi g.f _ fun y S1 H1 d n' r g1 t1 d1 => ?_⟩
  obtain ⟨q, rfl, hq⟩ := hR d n' r
  cases d1
  have hl1 := DpAll_len hd1
  have hl2 := DpAll_len hd2
  have hx1' : H1 o1 = some (.lst xs1) := g1.k o1 _ ot1 hx1
  have hx2' : H1 o2 = some (.lst xs2) := g1.k o2 _ ot2 hx2
  obtain ⟨v, hv, hdv⟩ := DpAll_get (DpAll_mono hd1 g1.s) (List.getElem?_eq_getElem hq)
  have hsi : seqIndex? (q : Int) xs1.length = some q := by
    have := seqIndex_of (k := (q : Int)) (n := xs1.length) (by omega) (by omega)
    simpa using this
  refine ⟨o1, xs1, (q : Int), q, v, rfl, rfl, hx1', by omega, by omega, hsi, hv, ?_⟩
  refine ⟨o2, xs2, v, rfl, rfl, by rw [upd_ne o12]; exact hx2', szt (by omega), k q hq n' _ r ?_⟩
  have e1 := e.town hi g1 t1
  have g1' := g.trans (g1.mono fun x hx => by cases hx; exact hm)
  obtain ⟨g2, e2⟩ := own_put (ys := xs1.eraseIdx q) g1' e1 (show (l.set it (.town t n'))[i]? = some (.own o1 ds) by rw [List.getElem?_set_ne (Ne.symm hne)]; exact h1) (DpAll_erase q (DpAll_mono hd1 g1.s))
  exact At.put (H' := H1) (tw_set (tw_town h.tw hi) fun _ _ z => nomatch z) g2 e2 (b.trans g1.s) (by rw [List.getElem?_set_ne hne3, List.getElem?_set_ne (Ne.symm hne2)]; exact h2) (DpAll_app (DpAll_mono hd2 g1.s) (.cons hdv .nil))
end
end Dz
namespace Dz
open PySem PySem.SeqAt PyProof.Rows L2 RZ
section
variable {K : PySem.W.Frag} {l : List Sl} {ta tb te : TE} {a b d : PyData} {ds es : List PyData} {i j it n : Nat} {t : Addr}
theorem cutD_take (ds : List PyData) (k : Nat) : cutD ds none (some (k : Int)) = ds.take k := by
  unfold cutD
  rw [HT.sIx_none, HT.sIx_nat]
  simp only [List.drop_zero, Nat.sub_zero]
  by_cases h : k ≤ ds.length
  · rw [Nat.min_eq_left h]
  · rw [Nat.min_eq_right (by omega), List.take_length, List.take_of_length_le (by omega)]
theorem cutD_drop (ds : List PyData) (k : Nat) : cutD ds (some (k : Int)) none = ds.drop k := by
  unfold cutD
  rw [HT.sIx_none, HT.sIx_nat]
  by_cases h : k ≤ ds.length
  · rw [Nat.min_eq_left h, List.take_of_length_le (by rw [List.length_drop]; omega)]
  · rw [Nat.min_eq_right (by omega), Nat.sub_self, List.take_zero, List.drop_of_length_le (by omega)]
theorem cutD_front (ds : List PyData) (k : Nat) (h0 : 0 < k) : cutD ds none (some (-(k : Int))) = ds.take (ds.length - k) := by
  unfold cutD
  rw [HT.sIx_none]
  show List.take ((if (-(k : Int)) < 0 then (-(k : Int) + (ds.length : Int)).toNat else min (-(k : Int)).toNat ds.length) - 0) (List.drop 0 ds) = _
  rw [if_pos (by omega)]
  simp only [List.drop_zero, Nat.sub_zero]
  congr 1
  omega
theorem rgV_dp {S : Hp} (a b : Int) : DpAll K S (rgV a b) (rng a (b - a).toNat) := by
  unfold rgV rng
  generalize List.range (b - a).toNat = xs
  induction xs with
  | nil => exact .nil
  | cons x r ih => exact .cons (.int _) ih
/-- list(range(n)) -/
theorem ev_listRg {m : Int} (h : Ev K te l (.int m)) (h1 : m ≤ 100000) (h2 : -100000 ≤ m) : Ev K (tLstRg (tRg1 te)) l (.list (rng 0 m.toNat)) := fun H0 S H s e hs Q q =>
  h H0 S H s e hs _ fun v S1 H1 g1 d1 => by
    cases d1
    refine ⟨m, rfl, ⟨by omega, by omega, by omega, by omega, by omega⟩, new_lst g1.f ?_ fun v S' H' g d => q v S' H' (g1.trans g) d⟩
    have := rgV_dp (K := K) (S := S1) 0 m
    rwa [Int.sub_zero] at this
theorem el_listRg {m : Int} (h : Ev K te l (.int m)) (h1 : m ≤ 100000) (h2 : -100000 ≤ m) : EvL K (tLstRg (tRg1 te)) l (rng 0 m.toNat) := fun H0 S H s e hs Q q =>
  h H0 S H s e hs _ fun v S1 H1 g1 d1 => by
    cases d1
    refine ⟨m, rfl, ⟨by omega, by omega, by omega, by omega, by omega⟩, fun p hp => q p S1 _ _ (g1.trans (Grow.out g1.f hp)) (g1.all.free hp) (g1.f.free hp) upd_same ?_⟩
    have := rgV_dp (K := K) (S := S1) 0 m
    rwa [Int.sub_zero] at this
/-- [..] * n, nobody's yet -/
theorem el_rep {tr : TA} {k : Int} (ha : EvA K tr l ds) (hb : Ev K tb l (.int k)) (hk : k ≤ 1000 ∧ -1000 ≤ k) (hd : ds.length ≤ 100) : EvL K (tOp rTimes (tLst tr) tb) l (List.replicate k.toNat ds).flatten := fun H0 S H s e hs Q q =>
  ha H0 S H s e hs _ fun xs S1 H1 g1 d1 => ⟨by rw [DpAll_len d1]; exact szl (by omega), fun p hp => by
    have g2 : Grow m0 S1 H1 (upd S1 p (.lst xs)) (upd H1 p (.lst xs)) := Grow.new g1.f hp
    refine hb H0 _ _ s (e.grow (g1.trans g2)) g2.f _ fun y S3 H3 g3 d3 => ?_
    cases d3
    have hl := DpAll_len d1
    refine .inr ⟨p, k, xs, rfl, rfl, g3.all p _ upd_same, by omega, by omega, ?_, ?_⟩
    · refine szl (Nat.le_trans (Nat.mul_le_mul (show xs.length ≤ 100 by omega) (show k.toNat ≤ 1000 by omega)) (by decide))
    · have hrep : ∀ n : Nat, DpAll K S3 (List.replicate n xs).flatten (List.replicate n ds).flatten := fun n => by
        induction n with
        | zero => exact .nil
        | succ n ih =>
          rw [List.replicate_succ, List.replicate_succ, List.flatten_cons, List.flatten_cons]
          exact DpAll_app (DpAll_mono d1 (g2.s.trans g3.s)) ih
      exact fun p' hp' => q p' S3 _ _ (((g1.trans g2).trans g3).trans (Grow.out g3.f hp')) (((g1.trans g2).trans g3).all.free hp') (g3.f.free hp') upd_same (hrep _)⟩
/-- xs[:n], both drawn -/
theorem ex_slHi {R1 : PyData → Nat → Prop} {R2 : PyData → Nat → PyData → Nat → Prop} {f : PyData → List PyData} {g : PyData → Int} (ha : EvX K te l it t n R1) (hf : ∀ a n1, R1 a n1 → a = .list (f a)) (hb : ∀ a n1, R1 a n1 → EvX K tb (l.set it (.town t n1)) it t n1 (R2 a n1)) (hg : ∀ a n1 b n2, R1 a n1 → R2 a n1 b n2 → b = .int (g b)) :
    EvX K (tSl (rSlAny K) te tNoPart (tPart tb)) l it t n (fun d n' => ∃ a n1 b, R1 a n1 ∧ R2 a n1 b n' ∧ d = .list (cutD (f a) none (some (g b)))) := fun H0 S H s e hl hs Q q =>
  ha H0 S H s e hl hs _ fun x S1 H1 a n1 r1 g1 t1 d1 => hb a n1 r1 H0 S1 H1 s (e.town hl g1 t1) (town_at hl) g1.f _ fun y S2 H2 b n2 r2 g2 t2 d2 => by
    have ea := hf a n1 r1
    have eb := hg a n1 b n2 r1 r2
    generalize hk : g b = k at eb
    generalize hfa : f a = fa at ea
    subst eb
    subst ea
    cases d2
    refine ⟨k, rfl, ?_⟩
    cases Dp_mono d1 g2.s with
    | lst h3 h4 => exact .inl ⟨_, _, rfl, g2.f.seq h3, new_lst g2.f (cut_dp h4 none (some k)) fun v S' H' g3 d3 => q v S' H' _ n2 ⟨_, n1, _, r1, r2, by rw [hfa, hk]⟩ ((g1.trans g2).trans g3.any) (t2.grow g3) d3⟩
theorem TownAt.le {H : Hp} {n' : Nat} (h : TownAt H t n) (h1 : n ≤ n') (h0 : 0 < n) : TownAt H t n' := by
  obtain ⟨ns, a, b, c⟩ := h
  exact ⟨ns, a, by omega, fun _ => c h0⟩
end
section
variable {C : Cn} {l : List Sl} {s : L2.St} {H : Hp} {it n n' : Nat} {t : Addr}
/-- more room in the town -/
theorem At.room (h : At C l s H) (hi : l[it]? = some (.town t n)) (h1 : n ≤ n') (h0 : 0 < n) : At C (l.set it (.town t n')) s H := by
  obtain ⟨S, g, e, b⟩ := h.ex
  exact ⟨⟨S, g, e.town hi (Grow.refl g.f) ((e.townAt hi).le h1 h0), b⟩, tw_town h.tw hi⟩
end
end Dz

/-! the rules with the written part named -/
namespace Dz
open PySem PySem.SeqAt PyProof.Rows L2 RZ SrtO
section
variable {X : Cx} (K : PySem.W.Frag)
theorem k_ix (h : X.K = K := by rfl) : IxR X (rIx K) := h ▸ ix_seq
theorem k_sl (h : X.K = K := by rfl) : SlR X (rSlAny K) := h ▸ sl_any
theorem k_plus (h : X.K = K := by rfl) : OpR X (binaryOp .Add) (rPlus K) := h ▸ op_plus
theorem k_eq (hu : X.A.units + 64 < cLine) (h : X.K = K := by rfl) : OpR X (compareOp .Eq) (rEqA K) := h ▸ op_eqA hu
theorem k_ne (hu : X.A.units + 64 < cLine) (h : X.K = K := by rfl) : OpR X (compareOp .NotEq) (rNeA K) := h ▸ op_neA hu
theorem k_in (h : X.K = K := by rfl) : OpR X (compareOp .In) (rIn K false) := h ▸ op_in_seq
theorem k_notin (h : X.K = K := by rfl) : OpR X (compareOp .NotIn) (rIn K true) := h ▸ op_notIn_seq
theorem k_inD (hu : X.A.units + 65 < cLine) (h : X.K = K := by rfl) : OpR X (compareOp .In) (rInD K) := h ▸ op_inD hu
theorem k_notinD (hu : X.A.units + 65 < cLine) (h : X.K = K := by rfl) : OpR X (compareOp .NotIn) (rNotInD K) := h ▸ op_notInD hu
theorem k_len (h : X.K = K := by rfl) : CallR X (.builtin "len") (rLenK K) := h ▸ call_len_seq
theorem k_list (h : X.K = K := by rfl) : CallR X (.type "list") (rListK K) := h ▸ call_list_of
theorem k_tuple (h : X.K = K := by rfl) : CallR X (.type "tuple") (rTupleK K) := h ▸ call_tuple_of
theorem k_max (hc : X.calm = true) (h : X.K = K := by rfl) : CallR X (.builtin "max") (rMax K) := h ▸ cr_max hc
theorem k_min (hc : X.calm = true) (h : X.K = K := by rfl) : CallR X (.builtin "min") (rMin K) := h ▸ cr_min hc
theorem k_sum (hc : X.calm = true) (h : X.K = K := by rfl) : CallR X (.builtin "sum") (rSum K) := h ▸ cr_sum hc
theorem k_all (hc : X.calm = true) (h : X.K = K := by rfl) : CallR X (.builtin "all") (rAll K) := h ▸ cr_all hc
theorem k_any (hc : X.calm = true) (h : X.K = K := by rfl) : CallR X (.builtin "any") (rAny K) := h ▸ cr_any hc
theorem k_sorted (h : X.K = K := by rfl) : CallR X (.builtin "sorted") (rSortedI K) := h ▸ cr_sortedI
theorem k_isi (h : X.K = K := by rfl) : CallR X (.builtin "isinstance") (rIsi K) := h ▸ call_isi
theorem k_seq {tg e : Expr} {tl : TE} (p : PE X e tl) (h : X.K = K := by rfl) : PI X tg e (iSeq K tl) := h ▸ pi_seq p
theorem k_tru {a : Expr} {ta : TE} (ha : PE X a ta) (he : ∀ whole, isTrue a X.env whole = (do let v ← whole; standAt a.pos; holding [v] (truthy v))) (h : X.K = K := by rfl) : PT X a (fun σ H Q => ta σ H fun x H' => ∃ k, TruV K x H' k ∧ Q k H') := h ▸ pt_truth ha he
theorem k_notT {a : Expr} {ta : TE} {pos : Pos} (ha : PE X a ta) (h : X.K = K := by rfl) : PE X (.UnaryOp .Not a pos) (tNotT K ta) := h ▸ pe_notT ha
theorem k_orT {a b : Expr} {rest : List Expr} {ta tb : TE} {pos : Pos} (ha : PE X a ta) (hb : PE X (.BoolOp .Or (b :: rest) pos) tb) (h : X.K = K := by rfl) : PE X (.BoolOp .Or (a :: b :: rest) pos) (tOrT K ta tb) := h ▸ pe_orT ha hb
theorem k_andT {a b : Expr} {rest : List Expr} {ta tb : TE} {pos : Pos} (ha : PE X a ta) (hb : PE X (.BoolOp .And (b :: rest) pos) tb) (h : X.K = K := by rfl) : PE X (.BoolOp .And (a :: b :: rest) pos) (tAndT K ta tb) := h ▸ pe_andT ha hb
theorem k_tup {es : List Expr} {k : Nat} {t : TGs} {n : Nat} {pos : Pos} (hc : X.calm = true) (p : PGs X es t) (h : X.K = K := by rfl)
    (hn : (assignEach es X.env).length = n := by rfl) (hst : (assignEach es X.env).findIdx? (·.1) = none := by rfl) : PG X (.Tuple es k pos) (gTup K n t) := by
  subst h
  exact pg_tup hc p hn hst
end
end Dz

namespace Dz
open PySem PySem.SeqAt PyProof.Rows L2 RZ
/-! ### a def that takes data and gives data, told by a relation -/
def spR (K : PySem.W.Frag) (R : List PyData → PyData → Prop) : Sp := fun vs H Q _ => ∃ S ds d, Same S H ∧ DpAll K S vs ds ∧ R ds d ∧ ∀ v S' H', Grow m0 S H S' H' → Dp K S' v d → Q v H'
section
variable {K : PySem.W.Frag} {l : List Sl} {ta tb te : TE} {tr : TA} {E : XK} {a b c d : PyData} {ds : List PyData} {it n : Nat} {t : Addr}
theorem ev_r {R : List PyData → PyData → Prop} (ha : EvA K tr l ds) (h : R ds d) : Ev K (tCall (spR K R) [] E tr) l d := ev_call ha fun vs S H Q E hs hd q => ⟨S, ds, d, hs, hd, h, q⟩
theorem ex_r {R : List PyData → PyData → Prop} {R1 : List PyData → Nat → Prop} {f : List PyData → PyData} (ha : EvXA K tr l it t n R1) (hp : ∀ as n1, R1 as n1 → R as (f as)) : EvX K (tCall (spR K R) [] E tr) l it t n (fun d n' => ∃ as, R1 as n' ∧ d = f as) :=
  ex_call ha fun as n1 r vs S H Q E hs hd q => ⟨S, as, f as, hs, hd, hp as n1 r, q⟩
/-! ### isinstance of data -/
def tyN : PyData → String
  | .none => "NoneType"
  | .bool _ => "bool"
  | .int _ => "int"
  | .str _ => "str"
  | .list _ => "list"
  | .tuple _ => "tuple"
  | .dict _ => "dict"
theorem tyX_of {S H : Hp} {v : V} (hs : Same S H) (h : Dp K S v a) : TyX K H v (.type (tyN a)) := by
  cases h with
  | non => exact .base .non
  | bl b => exact .base (.bl b)
  | int i => exact .base (.int i)
  | str x => exact .base (.str x)
  | lst h1 h2 =>
    rcases h1 with (h1 | ⟨o, h1⟩) | ⟨o, its, n, h1, h2, _⟩
    · exact .base (.lst (hs _ _ h1))
    · exact .base (.frz (hs _ _ h1))
    · exact .kList h1 h2
  | tup h1 h2 =>
    rcases h1 with (h1 | ⟨o, h1⟩) | ⟨o, its, n, h1, h2, _⟩
    · exact .base (.tup (hs _ _ h1))
    · exact .fTuple (hs _ _ h1)
    · exact .kTuple h1 h2
theorem ev_isi {T : String} {k : Bool} (ha : Ev K ta l a) (hk : kitB (tyN a) T = some k) : Ev K (tCB (rIsi K) (tCons ta (tCons (tC (.ty T)) tNil))) l (.bool k) := fun H0 S H s e hs Q q =>
  ha H0 S H s e hs _ fun x S1 H1 g1 d1 => ⟨x, .ty T, .type (tyN a), .type T, k, rfl, .ty T, tyX_of g1.f d1, kit_ty hk, q _ S1 H1 g1 (.bl k)⟩
end
/-- a def at level 0 with an empty promise -/
theorem Cal.zero {P : Program} {w : World} {K : PySem.W.Frag} {mg : Str → Option Value} {base : Heap} {x : Str} {ps : List Str} {sp : Sp} {f : Addr} {fd : FuncData} (hsp : ∀ vs H Q E, ¬ sp vs H Q E) (hm : mg x = some (.ref f)) (hk : PySem.W.keepIn K (.ref f) = true) (hb : Binds K fd ps []) : Cal P w K mg base 0 x ps sp :=
  ⟨f, fd, ⟨fun vs H Q E h => absurd h (hsp vs H Q E), fun A outer s H args us vs Q E hr he hb' hv h => absurd h (hsp vs H Q E)⟩, hm, hk, hb⟩
theorem in65 {k : Nat} {A : Around} (r : Room k A) : A.units + 65 < cLine := by have := r.un; omega
end Dz
namespace Dz
open PySem L2
theorem d_next {D : Ends} {s : L2.St} {H : Hp} (h : D.nx s H) : tNext D s H := h
end Dz
namespace Dz
open PySem L2
/-- a list of ints of one's own becomes the town -/
theorem At.toTown {C : Cn} {l : List Sl} {s : L2.St} {H : Hp} {i : Nat} {o : Addr} (h : At C l s H) (hi : l[i]? = some (.own o [])) (hm : ∀ a, C.H0 a = none → C.m a) : At C (l.set i (.town o 0)) s H := by
  obtain ⟨S, g, e, b⟩ := h.ex
  have h0 : C.H0 o = none := by
    obtain ⟨v, _, _, h0, _⟩ := e.ok i _ hi
    exact h0
  refine ⟨⟨S, g, e.put hi rfl rfl (Same.refl S) (fun _ z _ => z) (fun _ _ _ z => z) fun v ok => ?_, b⟩, fun t n q => ?_⟩
  · obtain ⟨e1, e2, e3, xs, e4, e5⟩ := ok
    cases e5
    exact ⟨e1, e3, [], e4, Nat.le_refl _, fun z => absurd z (Nat.lt_irrefl _)⟩
  · rcases List.mem_or_eq_of_mem_set q with q | q
    · exact h.tw t n q
    · cases q
      exact hm o h0
end Dz

namespace Dz
open PySem PySem.SeqAt PyProof.Rows L2 RZ SrtO
/-! ### keyword-only parameters -/
theorem kbn0 {K : PySem.W.Frag} {x qual : Str} {params : Arguments} {body : List Stmt} {scope : Scope} {kws : List (Str × V)} {f : Addr} {fd : FuncData} {ps : List Str} (F : FunD K x qual params body scope [] kws f fd) (hk : kws ≠ []) (n : Nat) (ks : List Str) (ms : List (Str × V)) (hms : ∀ q, q ∈ ms → q ∈ kws)
    (g : {α : Type} → List α → List α → List α → List α) (hg : ∀ {vs mz zs : List V} {us mv ws : List Value}, Vals vs us → Vals mz mv → Vals zs ws → Vals (g vs mz zs) (g us mv ws))
    (h : ∀ (D : Addr) (doc pm : Value) (an : Option Addr) (cdv ct : Value) (us mv ws : List Value), us.length = n → mv.length = ms.length → ws.length = ks.length →
      KwChain D ((ms.map (·.1)).zip mv) (bindArgs (PySem.W.fnOf x qual params body scope .none (.ref D) doc pm an cdv ct) { pos := us, kw := ks.zip ws }) (ps.zip (g us mv ws))) :
    ∃ mv, KBn K fd ps n ks (fun us ws => g us mv ws) (fun vs zs => g vs (ms.map (·.2)) zs) := by
  obtain ⟨oc, od, dV, kV, doc, pm, an, cdv, ct, osl, rfl, _, _, hd, hw⟩ := F.ex
  rcases hd with ⟨_, rfl⟩ | ⟨z, _⟩
  · rcases hw with rfl | ⟨D, rfl, hw⟩
    · exact absurd rfl hk
    · obtain ⟨mv, l1, r1, q1⟩ := kwd_vals (K := K) (D := D) (ms := ms) fun q hq => hw q (hms q hq)
      refine ⟨mv, ⟨fun s us ws hK h1 h2 => ?_, fun r r2 => hg r r1 r2⟩⟩
      exact BindsTo.of_looks fun M => KwChain.looks hK q1 (h D doc pm an cdv ct us mv ws h1 l1 h2)
  · exact absurd rfl z
structure CalK (P : Program) (w : World) (K : PySem.W.Frag) (mg : Str → Option Value) (base : Heap) (k : Nat) (x : Str) (ps : List Str) (n : Nat) (ks : List Str) (gV : List V → List V → List V) (sp : Sp) : Prop where
  ex : ∃ f fd g, FnOk P w K mg base CX0 k f fd ps sp ∧ mg x = some (.ref f) ∧ PySem.W.keepIn K (.ref f) = true ∧ KBn K fd ps n ks g gV
theorem CalK.mono {P : Program} {w : World} {K : PySem.W.Frag} {mg : Str → Option Value} {base : Heap} {j k n : Nat} {x : Str} {ps ks : List Str} {gV : List V → List V → List V} {sp : Sp} (c : CalK P w K mg base j x ps n ks gV sp) (h : j ≤ k) : CalK P w K mg base k x ps n ks gV sp := by
  obtain ⟨f, fd, g, a, b⟩ := c.ex
  exact ⟨f, fd, g, a.mono h, b⟩
structure CalD (P : Program) (w : World) (K : PySem.W.Frag) (mg : Str → Option Value) (base : Heap) (k : Nat) (x : Str) (ps : List Str) (dv : List V) (sp : Sp) : Prop where
  ex : ∃ f fd ds, FnOk P w K mg base CX0 k f fd ps sp ∧ mg x = some (.ref f) ∧ PySem.W.keepIn K (.ref f) = true ∧ Vals dv ds ∧ Binds K fd ps ds
theorem CalD.mono {P : Program} {w : World} {K : PySem.W.Frag} {mg : Str → Option Value} {base : Heap} {j k : Nat} {x : Str} {ps : List Str} {dv : List V} {sp : Sp} (c : CalD P w K mg base j x ps dv sp) (h : j ≤ k) : CalD P w K mg base k x ps dv sp := by
  obtain ⟨f, fd, g, a, b⟩ := c.ex
  exact ⟨f, fd, g, a.mono h, b⟩
theorem pe_calK {X : Cx} {k n : Nat} {x : Str} {ps ks : List Str} {gV : List V → List V → List V} {sp : Sp} {p pos : Pos} {e : Expr} {es : List Expr} {kws : List Keyword} {t tk : TA} (c : CalK X.prog X.w X.K X.mg X.base k x ps n ks gV sp) (hr : Room k X.A) (ha : PA X (e :: es) t) (hk : PK X kws tk) (hg : Gl X x := by rfl)
    (h1 : ((backToKw pos (keywordEach kws X.env)).all fun x => x.fst.isSome) = true := by rfl) (h2 : List.filterMap (fun x => x.fst) (backToKw pos (keywordEach kws X.env)) = ks := by rfl)
    (hdb : (x == ("__debug__" : Str)) = false := by decide) (he : starEach (e :: es) X.env = (false, eval e X.env) :: starEach es X.env := by rfl) (hpl : (((backTo pos (starEach (e :: es) X.env)).any fun x => x.fst) || (backToKw pos (keywordEach kws X.env)).any fun x => x.fst.isNone) = false := by rfl) :
    PE X (.Call (.Name x p) (e :: es) kws pos) (tCallN n ks.length sp gV E0 t tk) := by
  obtain ⟨f, fd, g, F, hm, hkp, hb⟩ := c.ex
  exact pe_callN F hr hg hm hkp hb pass0 ha hk h1 h2 hdb he hpl
theorem pe_calD {X : Cx} {k : Nat} {x : Str} {ps : List Str} {dv : List V} {sp : Sp} {p pos : Pos} {e : Expr} {es : List Expr} {t : TA} (c : CalD X.prog X.w X.K X.mg X.base k x ps dv sp) (hr : Room k X.A) (ha : PA X (e :: es) t) (hg : Gl X x := by rfl)
    (hdb : (x == ("__debug__" : Str)) = false := by decide) (he : starEach (e :: es) X.env = (false, eval e X.env) :: starEach es X.env := by rfl) (hpl : (backTo pos (starEach es X.env)).any (·.1) = false := by rfl) :
    PE X (.Call (.Name x p) (e :: es) [] pos) (tCall sp dv E0 t) := by
  obtain ⟨f, fd, ds, F, hm, hk, hv, hb⟩ := c.ex
  exact pe_call F hr hg hm hk hb hv pass0 ha hdb he hpl
variable {K : PySem.W.Frag} {l : List Sl}
theorem ev_callN {n m : Nat} {sp : Sp} {gV : List V → List V → List V} {E : XK} {tr tk : TA} {ds es cs : List PyData} {c : PyData} (ha : EvA K tr l ds) (hk : EvA K tk l es) (hn : ds.length = n) (hm : es.length = m) (hg : ∀ S vs zs, DpAll K S vs ds → DpAll K S zs es → DpAll K S (gV vs zs) cs) (hr : SpD K sp cs c) :
    Ev K (tCallN n m sp gV E tr tk) l c := fun H0 S H s e hs Q q =>
  ha H0 S H s e hs _ fun x S1 H1 g1 d1 => hk H0 S1 H1 s (e.grow g1) g1.f _ fun z S2 H2 g2 d2 =>
    ⟨by rw [DpAll_len d1]; exact hn, by rw [DpAll_len d2]; exact hm, hr _ S2 H2 Q E g2.f (hg S2 x z (DpAll_mono d1 g2.s) d2) fun v S3 H3 g3 d3 => q v S3 H3 ((g1.trans g2).trans g3) d3⟩
theorem ev_callD {sp : Sp} {dv : List V} {E : XK} {tr : TA} {ds es : List PyData} {c : PyData} (ha : EvA K tr l ds) (hg : ∀ S, DpAll K S dv es) (hr : SpD K sp (ds ++ es) c) : Ev K (tCall sp dv E tr) l c := fun H0 S H s e hs Q q =>
  ha H0 S H s e hs _ fun x S1 H1 g1 d1 => hr (x ++ dv) S1 H1 Q E g1.f (DpAll_app d1 (hg S1)) fun v S3 H3 g3 d3 => q v S3 H3 (g1.trans g3) d3
/-! ### what the top has written: a def with keyword-only parameters -/
def KwI (K : PySem.W.Frag) (D : Addr) (kws : List (Str × Int)) : Prop := ∀ q, q ∈ kws → ∃ t, PySem.W.nsIn K D q.1 = some (some (.int q.2 t))
theorem kw_nil {K : PySem.W.Frag} {D : Addr} : KwI K D [] := fun _ h => nomatch h
theorem kw_cons {K : PySem.W.Frag} {D : Addr} {x : Str} {i : Int} {tk : Tok} {r : List (Str × Int)} (h : PySem.W.nsIn K D x = some (some (.int i tk))) (t : KwI K D r) : KwI K D ((x, i) :: r) := fun q hq => by
  rcases List.mem_cons.mp hq with rfl | hq
  · exact ⟨tk, h⟩
  · exact t q hq
structure DefAtK (K : PySem.W.Frag) (x : Str) (st : Stmt) (kws : List (Str × Int)) : Prop where
  at_ : ∃ (f : Addr) (oc : Value) (od : Option Addr) (D : Addr) (dc pm : Value) (an : Option Addr) (cd ct : Value) (sl : Array (Option Value)), PySem.W.nsIn K mainGlobals x = some (some (.ref f)) ∧
    K.lookup f = some ⟨oc, od, .func (PySem.W.fnOf x x (defArgs st) (defBody st) (defScope st) .none (.ref D) dc pm an cd ct), sl⟩ ∧ PySem.W.codeIn K cd x = true ∧ PySem.W.keepIn K (.ref f) = true ∧ KwI K D kws
theorem def_atK {K : PySem.W.Frag} {x : Str} {st : Stmt} {kws : List (Str × Int)} {f : Addr} {oc : Value} {od an : Option Addr} {D : Addr} {dc pm cd ct : Value} {sl : Array (Option Value)} (a : PySem.W.nsIn K mainGlobals x = some (some (.ref f)))
    (l : K.lookup f = some ⟨oc, od, .func (PySem.W.fnOf x x (defArgs st) (defBody st) (defScope st) .none (.ref D) dc pm an cd ct), sl⟩) (c : PySem.W.codeIn K cd x = true) (k : PySem.W.keepIn K (.ref f) = true) (q : KwI K D kws) : DefAtK K x st kws := ⟨f, oc, od, D, dc, pm, an, cd, ct, sl, a, l, c, k, q⟩
abbrev FunK (K : PySem.W.Frag) (x : Str) (st : Stmt) (kws : List (Str × Int)) (f : Addr) (fd : FuncData) : Prop := FunD K x x (defArgs st) (defBody st) (defScope st) [] (kws.map fun q => (q.1, V.int q.2)) f fd
theorem DefAtK.ex {K : PySem.W.Frag} {x : Str} {st : Stmt} {kws : List (Str × Int)} {h : Heap} {mg : Str → Option Value} (d : DefAtK K x st kws) (X : K.In h) (G : h.Ns mainGlobals mg) : ∃ (f : Addr) (fd : FuncData), FunK K x st kws f fd ∧ mg x = some (.ref f) := by
  obtain ⟨f, oc, od, D, dc, pm, an, cd, ct, sl, a, l, c, k, q⟩ := d.at_
  refine ⟨f, _, ⟨⟨oc, od, .none, .ref D, dc, pm, an, cd, ct, sl, rfl, l, c, .inl ⟨rfl, rfl⟩, .inr ⟨D, rfl, fun p hp => ?_⟩⟩, k⟩, PySem.W.mg_of X G a⟩
  obtain ⟨u, hu, rfl⟩ := List.mem_map.mp hp
  obtain ⟨tk, ht⟩ := q u hu
  exact ⟨_, ht, ⟨_, rfl⟩⟩
/-! ### a row put in order -/
def sortI (ns : List Int) : List Int := ns.mergeSort (fun a b => decide (a ≤ b))
theorem sortI_perm (ns : List Int) : (sortI ns).Perm ns := List.mergeSort_perm _ _
theorem sortI_le (ns : List Int) : (sortI ns).Pairwise (· ≤ ·) := by
  have h := List.pairwise_mergeSort (le := fun (a b : Int) => decide (a ≤ b)) (fun a b c h1 h2 => by simp at *; omega) (fun a b => by simp; omega) ns
  exact h.imp (by intro a b h; simpa using h)
theorem sorted_uniq : ∀ {xs ys : List Int}, xs.Perm ys → xs.Pairwise (· ≤ ·) → ys.Pairwise (· ≤ ·) → xs = ys
  | [], ys, h, _, _ => by rw [List.nil_perm.mp h]
  | x :: xs, [], h, _, _ => by simp at h
  | x :: xs, y :: ys, h, h1, h2 => by
    have hx : x ∈ y :: ys := h.mem_iff.mp List.mem_cons_self
    have hy : y ∈ x :: xs := h.mem_iff.mpr List.mem_cons_self
    have e : x = y := by
      rcases List.mem_cons.mp hx with e | hx
      · exact e
      rcases List.mem_cons.mp hy with e | hy
      · exact e.symm
      have a := (List.pairwise_cons.mp h1).1 y hy
      have b := (List.pairwise_cons.mp h2).1 x hx
      omega
    subst e
    rw [sorted_uniq (List.Perm.cons_inv h) (List.pairwise_cons.mp h1).2 (List.pairwise_cons.mp h2).2]
theorem sortI_is {ns ms : List Int} (h : ms.Perm ns) (h2 : ms.Pairwise (· ≤ ·)) : ms = sortI ns := sorted_uniq (h.trans (sortI_perm ns).symm) h2 (sortI_le ns)
theorem sortI_len (ns : List Int) : (sortI ns).length = ns.length := (sortI_perm ns).length_eq
theorem sortI_first {ns : List Int} (h : ns ≠ []) : (sortI ns)[0]? = some (minI ns) := by
  have hp := sortI_perm ns
  have hle := sortI_le ns
  cases e : sortI ns with
  | nil =>
    rw [e] at hp
    exact absurd (List.nil_perm.mp hp) h
  | cons x r =>
    rw [e] at hp hle
    have : minI ns = x := minI_is (hp.mem_iff.mp List.mem_cons_self) fun y hy => by
      rcases List.mem_cons.mp (hp.mem_iff.mpr hy) with rfl | q
      · exact Int.le_refl _
      · exact (List.pairwise_cons.mp hle).1 y q
    rw [this]
    rfl
theorem sortI_last {ns : List Int} (h : ns ≠ []) : (sortI ns)[ns.length - 1]? = some (maxI ns) := by
  have hp := sortI_perm ns
  have hle := sortI_le ns
  have hl := sortI_len ns
  have hpos : 0 < ns.length := List.length_pos_iff.mpr h
  have hlt : ns.length - 1 < (sortI ns).length := by omega
  rw [List.getElem?_eq_getElem hlt]
  refine congrArg some (maxI_is (hp.mem_iff.mp (List.getElem_mem hlt)) fun y hy => ?_).symm
  obtain ⟨i, hi, rfl⟩ := List.mem_iff_getElem.mp (hp.mem_iff.mpr hy)
  by_cases e : i = ns.length - 1
  · subst e
    exact Int.le_refl _
  · exact List.pairwise_iff_getElem.mp hle i (ns.length - 1) hi hlt (by omega)
theorem rc_sorted {ns : List Int} : RCD K (rSortedI K) [.list (ns.map .int)] (.list ((sortI ns).map .int)) := fun vs S H Q hs hx q => by
  cases hx with
  | cons h1 h2 =>
    cases h2
    cases h1 with
    | lst h3 h4 =>
      rw [ints_of h4] at h3
      exact ⟨_, ns, rfl, hs.seq h3, fun ns' p hp hle hn => by
        rw [sortI_is hp hle]
        exact new_lst hs (DpAll_ints _) q p hn⟩
theorem rc_max2 {i j : Int} : RCD K (fun xs H Q => ∃ i j, xs = [.int i, .int j] ∧ Q (.int (if j > i then j else i)) H) [.int i, .int j] (.int (max i j)) := fun vs S H Q hs hx q => by
  cases hx with
  | cons h1 h2 =>
    cases h2 with
    | cons h2 h3 =>
      cases h3; cases h1; cases h2
      have e : (if j > i then j else i) = max i j := by split <;> omega
      exact ⟨i, j, rfl, by rw [e]; exact q _ S H (Grow.refl hs) (.int _)⟩
theorem rc_min2 {i j : Int} : RCD K (fun xs H Q => ∃ i j, xs = [.int i, .int j] ∧ Q (.int (if j < i then j else i)) H) [.int i, .int j] (.int (min i j)) := fun vs S H Q hs hx q => by
  cases hx with
  | cons h1 h2 =>
    cases h2 with
    | cons h2 h3 =>
      cases h3; cases h1; cases h2
      have e : (if j < i then j else i) = min i j := by split <;> omega
      exact ⟨i, j, rfl, by rw [e]; exact q _ S H (Grow.refl hs) (.int _)⟩
/-! ### draws, step by step -/
section
variable {it n : Nat} {t : Addr} {ta tb te : TE} {tt : TT} {tr : TA} {r : V → V → Hp → VK → Prop} {R : PyData → Nat → Prop} {RA : List PyData → Nat → Prop} {RB : Bool → Nat → Prop}
theorem xw_ev {d : PyData} (h : Ev K te l d) (q : R d n) : EvX K te l it t n R := ex_mono (ex_ev h) fun _ _ ⟨e1, e2⟩ => e1 ▸ e2 ▸ q
theorem xw_op {R1 : PyData → Nat → Prop} (ha : EvX K ta l it t n R1) (hb : ∀ a n1, R1 a n1 → EvX K tb (l.set it (.town t n1)) it t n1 (fun b n2 => ∃ c, RD K r a b c ∧ R c n2)) : EvX K (tOp r ta tb) l it t n R := fun H0 S H s e hl hs Q q =>
  ha H0 S H s e hl hs _ fun x S1 H1 a n1 r1 g1 t1 d1 => hb a n1 r1 H0 S1 H1 s (e.town hl g1 t1) (town_at hl) g1.f _ fun y S2 H2 b n2 ⟨c, hr, r2⟩ g2 t2 d2 =>
    hr x y S2 H2 Q g2.f (Dp_mono d1 g2.s) d2 fun v S3 H3 g3 d3 => q v S3 H3 c n2 r2 ((g1.trans g2).trans g3.any) (t2.grow g3) d3
theorem xw_opR {R1 : PyData → Nat → Prop} (ha : EvX K ta l it t n R1) (hb : ∀ a n1, R1 a n1 → ∃ b c, Ev K tb (l.set it (.town t n1)) b ∧ RD K r a b c ∧ R c n1) : EvX K (tOp r ta tb) l it t n R :=
  xw_op ha fun a n1 h1 => by
    obtain ⟨b, c, h2, h3, h4⟩ := hb a n1 h1
    exact xw_ev h2 ⟨c, h3, h4⟩
theorem xw_opL {a : PyData} (ha : Ev K ta l a) (hb : EvX K tb l it t n (fun b n2 => ∃ c, RD K r a b c ∧ R c n2)) : EvX K (tOp r ta tb) l it t n R := fun H0 S H s e hl hs Q q =>
  ha H0 S H s e hs _ fun x S1 H1 g1 d1 => hb H0 S1 H1 s (e.grow g1) hl g1.f _ fun y S2 H2 b n2 ⟨c, hr, r2⟩ g2 t2 d2 =>
    hr x y S2 H2 Q g2.f (Dp_mono d1 g2.s) d2 fun v S3 H3 g3 d3 => q v S3 H3 c n2 r2 ((g1.any.trans g2).trans g3.any) (t2.grow g3) d3
theorem xw_nil (q : RA [] n) : EvXA K tNil l it t n RA := fun H0 S H s e hl hs Q k => k [] S H [] n q (Grow.refl hs) (e.townAt hl) .nil
theorem xw_cons {R1 : PyData → Nat → Prop} (ha : EvX K ta l it t n R1) (hb : ∀ a n1, R1 a n1 → EvXA K tr (l.set it (.town t n1)) it t n1 (fun ds n2 => RA (a :: ds) n2)) : EvXA K (tCons ta tr) l it t n RA := fun H0 S H s e hl hs Q q =>
  ha H0 S H s e hl hs _ fun x S1 H1 a n1 r1 g1 t1 d1 => hb a n1 r1 H0 S1 H1 s (e.town hl g1 t1) (town_at hl) g1.f _ fun y S2 H2 b n2 r2 g2 t2 d2 =>
    q (x :: y) S2 H2 (a :: b) n2 r2 (g1.trans g2) t2 (.cons (Dp_mono d1 g2.s) d2)
theorem xw_consE {a : PyData} (ha : Ev K ta l a) (hb : EvXA K tr l it t n (fun ds n2 => RA (a :: ds) n2)) : EvXA K (tCons ta tr) l it t n RA := fun H0 S H s e hl hs Q q =>
  ha H0 S H s e hs _ fun x S1 H1 g1 d1 => hb H0 S1 H1 s (e.grow g1) hl g1.f _ fun y S2 H2 b n2 r2 g2 t2 d2 =>
    q (x :: y) S2 H2 (a :: b) n2 r2 (g1.any.trans g2) t2 (.cons (Dp_mono d1 g2.s) d2)
theorem xw_tup (ha : EvXA K tr l it t n (fun ds n' => ds.length ≤ 100000 ∧ R (.tuple ds) n')) : EvX K (tTup tr) l it t n R := ex_mono (ex_tup ha fun _ _ h => h.1) fun _ _ ⟨ds, h, e⟩ => e ▸ h.2
theorem xw_lst (ha : EvXA K tr l it t n (fun ds n' => ds.length ≤ 100000 ∧ R (.list ds) n')) : EvX K (tLst tr) l it t n R := ex_mono (ex_lst ha fun _ _ h => h.1) fun _ _ ⟨ds, h, e⟩ => e ▸ h.2
theorem xw_cb {rr : List V → Hp → VK → Prop} (ha : EvXA K tr l it t n (fun as n' => ∃ d, RCD K rr as d ∧ R d n')) : EvX K (tCB rr tr) l it t n R := fun H0 S H s e hl hs Q q =>
  ha H0 S H s e hl hs _ fun x S1 H1 as n1 ⟨d, hr, r1⟩ g1 t1 d1 => hr x S1 H1 Q g1.f d1 fun v S3 H3 g3 d3 => q v S3 H3 d n1 r1 (g1.trans g3.any) (t1.grow g3) d3
theorem xw_call {sp : Sp} {E : XK} (ha : EvXA K tr l it t n (fun as n' => ∃ d, SpD K sp as d ∧ R d n')) : EvX K (tCall sp [] E tr) l it t n R := fun H0 S H s e hl hs Q q =>
  ha H0 S H s e hl hs _ fun x S1 H1 as n1 ⟨d, hr, r1⟩ g1 t1 d1 => hr (x ++ []) S1 H1 Q E g1.f (by rw [List.append_nil]; exact d1) fun v S3 H3 g3 d3 => q v S3 H3 d n1 r1 (g1.trans g3.any) (t1.grow g3) d3
theorem xw_r {RR : List PyData → PyData → Prop} {E : XK} (ha : EvXA K tr l it t n (fun as n' => ∃ d, RR as d ∧ R d n')) : EvX K (tCall (spR K RR) [] E tr) l it t n R :=
  xw_call fun H0 S H s e hl hs Q q => ha H0 S H s e hl hs Q fun v S1 H1 as n1 ⟨d, h1, h2⟩ => q v S1 H1 as n1 ⟨d, fun vs S H Q E hs hd q => ⟨S, as, d, hs, hd, h1, q⟩, h2⟩
theorem xw_dr {pre : PyData → List PyData → Nat → Prop} {res : List PyData → Nat → PyData → Nat → Prop} {E : XK} {i0 : Nat} {sc : PyData} (h0 : l[i0]? = some (.dat sc)) (h1 : l[it]? = some (.town t n))
    (ha : EvXA K tr l it t n (fun as n1 => pre sc as n1 ∧ ∀ d n', res as n1 d n' → R d n')) : EvX K (tCall (spT K pre res) [] E (tCons (tVar i0) (tCons (tVar it) tr))) l it t n R :=
  ex_mono (ex_dr h0 h1 ha fun _ _ h => h.1) fun d n' ⟨as, n1, h, r⟩ => h.2 d n' r
theorem xw_test (ha : EvX K te l it t n (fun d n' => ∃ b, d = .bool b ∧ RB b n')) : EvXT K (tTest te) l it t n RB := fun H0 S H s e hl hs Q q =>
  ha H0 S H s e hl hs _ fun x S1 H1 d n1 ⟨b, e1, r1⟩ g1 t1 d1 => by
    subst e1
    cases d1
    exact ⟨b, rfl, q S1 H1 b n1 r1 g1 t1⟩
end
section
variable {C : Cn} {l' : List Sl} {te : TE} {i it n : Nat} {t : Addr} {s : L2.St} {H : Hp} {D : Ends} {g : TG}
theorem dx_asgB {R : PyData → Nat → Prop} (h : At C l s H) (hi : l[it]? = some (.town t n)) (he : EvX C.K te l it t n R) (k : ∀ d n', R d n' → ∃ l', Bd C.K g (l.set it (.town t n')) d l' ∧ (∀ t n, Sl.town t n ∈ l' → C.m t) ∧ ∀ s' H', At C l' s' H' → D.nx s' H') : tAsg te g D s H :=
  h.stepX hi he fun v S' H' d n' r g' e b d1 => by
    obtain ⟨l', hb, ht, hk⟩ := k d n' r
    exact hb C.H0 S' H' s v _ e g'.f d1 fun s2 e2 => hk _ _ ⟨⟨S', g', e2, b⟩, ht⟩
end
section
variable {C : Cn} {ta tb : TE} {a : PyData} {ds : List PyData} {i j : Nat} {s : L2.St} {H : Hp} {D : Ends}
/-- x, y = e1, e2 by way of a tuple: data and a new list -/
theorem d_asgDL (h : At C l s H) (ha : Ev C.K ta l a) (hb : EvL C.K tb l ds) (k : ∀ p s' H', At C ((l.set i (.dat a)).set j (.own p ds)) s' H' → D.nx s' H') : tAsg (tTup (tCons ta (tCons tb tNil))) (gTup C.K 2 (gCons (gName i) (gCons (gName j) gNil))) D s H := by
  obtain ⟨S, g, e, b0⟩ := h.ex
  refine ha C.H0 S H s e g.f _ fun x S1 H1 g1 d1 => hb C.H0 S1 H1 s (e.grow g1) g1.f _ fun p S2 H2 xs g2 hp sp hx hd => ⟨szl (show 2 ≤ 100000 by decide), fun T hT => ⟨T, [x, .ref p], rfl, .inl (.inl upd_same), rfl, x, _, rfl, .ref p, _, rfl, rfl, k p _ _ ?_⟩⟩
  have h1 : At C (l.set i (.dat a)) (s.set i (some x)) H1 := ⟨⟨S1, g.trans g1.any, (e.grow g1).dat d1, b0.trans g1.s⟩, tw_set h.tw fun _ _ z => nomatch z⟩
  have g3 : Grow m0 S2 H2 S2 (upd H2 T (.tup [x, .ref p])) := Grow.out g2.f hT
  have hpT : p ≠ T := fun z => by rw [z, hT] at hx; cases hx
  exact h1.own (g.trans g1.any) ((e.grow g1).dat d1) (b0.trans g1.s) (g2.trans g3) hp sp (by rw [upd_ne hpT]; exact hx) hd
end
section
variable {C : Cn} {ta : TA} {ds : List PyData} {i j m it n : Nat} {t : Addr} {s : L2.St} {H : Hp} {D : Ends}
theorem At.stepXA {R : List PyData → Nat → Prop} (h : At C l s H) (hi : l[it]? = some (.town t n)) (he : EvXA C.K ta l it t n R) {Q : List V → Hp → Prop} (q : ∀ v S' H' d n', R d n' → Grow C.m C.S0 C.H0 S' H' → Env C.K C.H0 S' H' s (l.set it (.town t n')) → Same C.Sb S' → DpAll C.K S' v d → Q v H') : ta s H Q := by
  obtain ⟨S, g, e, b⟩ := h.ex
  have hm : C.m t := h.tw t n (List.mem_of_getElem? hi)
  exact he C.H0 S H s e hi g.f Q fun v S' H' d n' r g1 t1 d1 => q v S' H' d n' r (g.trans (g1.mono fun x hx => by cases hx; exact hm)) (e.town hi g1 t1) (b.trans g1.s) d1
theorem dx_par {R : List PyData → Nat → Prop} (h : At C l s H) (hi : l[it]? = some (.town t n)) (he : EvXA C.K ta l it t n R) (hR : ∀ ds n', R ds n' → ds.length = 2) (k : ∀ a b n' s' H', R [a, b] n' → At C (((l.set it (.town t n')).set i (.dat a)).set j (.dat b)) s' H' → D.nx s' H') : tPar i j ta D s H :=
  h.stepXA hi he fun v S' H' d n' r g e b d1 => by
    have hl := hR d n' r
    match d, hl with
    | [x, y], _ =>
      cases d1 with
      | cons q1 d2 => cases d2 with
        | cons q2 d3 =>
          cases d3
          exact ⟨_, _, rfl, k x y n' _ _ r ⟨⟨S', g, (e.dat q1).dat q2, b⟩, tw_set (tw_set (tw_town h.tw hi) fun _ _ z => nomatch z) fun _ _ z => nomatch z⟩⟩
theorem dx_par3 {R : List PyData → Nat → Prop} (h : At C l s H) (hi : l[it]? = some (.town t n)) (he : EvXA C.K ta l it t n R) (hR : ∀ ds n', R ds n' → ds.length = 3) (k : ∀ a b c n' s' H', R [a, b, c] n' → At C ((((l.set it (.town t n')).set i (.dat a)).set j (.dat b)).set m (.dat c)) s' H' → D.nx s' H') : tPar3 i j m ta D s H :=
  h.stepXA hi he fun v S' H' d n' r g e b d1 => by
    have hl := hR d n' r
    match d, hl with
    | [x, y, z], _ =>
      cases d1 with
      | cons q1 d2 => cases d2 with
        | cons q2 d3 => cases d3 with
          | cons q3 d4 =>
            cases d4
            exact ⟨_, _, _, rfl, k x y z n' _ _ r ⟨⟨S', g, ((e.dat q1).dat q2).dat q3, b⟩, tw_set (tw_set (tw_set (tw_town h.tw hi) fun _ _ z => nomatch z) fun _ _ z => nomatch z) fun _ _ z => nomatch z⟩⟩
theorem d_par3 {a b c : PyData} (h : At C l s H) (he : EvA C.K ta l [a, b, c]) (k : ∀ s' H', At C (((l.set i (.dat a)).set j (.dat b)).set m (.dat c)) s' H' → D.nx s' H') : tPar3 i j m ta D s H := by
  obtain ⟨S, g, e, b0⟩ := h.ex
  refine he C.H0 S H s e g.f _ fun v S' H' g1 d1 => ?_
  cases d1 with
  | cons q1 d2 => cases d2 with
    | cons q2 d3 => cases d3 with
      | cons q3 d4 =>
        cases d4
        exact ⟨_, _, _, rfl, k _ _ ⟨⟨S', g.trans g1.any, (((e.grow g1).dat q1).dat q2).dat q3, b0.trans g1.s⟩, tw_set (tw_set (tw_set h.tw fun _ _ z => nomatch z) fun _ _ z => nomatch z) fun _ _ z => nomatch z⟩⟩
end
end Dz

namespace W
open PySem PySem.Spec PyProof.Rows L2 RZ SrtO Dz
def top (i : Nat) : Stmt := PySem.Challenge.pw_searchduel_k06_windows_by_hand.main.body.getD i (.Pass ⟨0, 0, 0, 0⟩)
structure Bn (mg : Str → Option Value) : Prop where
  len : mg "len" = none
  list : mg "list" = none
  tuple : mg "tuple" = none
  range : mg "range" = none
  zip : mg "zip" = none
  enumerate : mg "enumerate" = none
  abs : mg "abs" = none
  max : mg "max" = none
  min : mg "min" = none
  sum : mg "sum" = none
  all : mg "all" = none
  any : mg "any" = none
  sorted : mg "sorted" = none
  isinstance : mg "isinstance" = none
  int : mg "int" = none
  bool : mg "bool" = none
  str : mg "str" = none
variable {P : Program} {w : World} {K : PySem.W.Frag} {mg : Str → Option Value} {base : Heap}
/-- a script -/
def Scr (sc : PyData) : Prop := ∃ ns : List Int, sc = .list (ns.map .int) ∧ ns.length ≤ 63
theorem cxK {CX : CXT} {P : Program} {w : World} {K : PySem.W.Frag} {mg : Str → Option Value} {base : Heap} {N : List Str} {q : Str} {sc : Scope} {f : Addr} {cd : Value} {A : Around} {o : List PySem.Env} {s : Shared} {H : Hp} {E : XK} : (cxOf CX P w K mg base N q sc f cd A o s H E).K = K := rfl

local macro_rules | `(tactic| walk_at "rd") => `(tactic| first
  | with_reducible exact rd_plusI
  | with_reducible exact rd_I0 (fun _ => Dp.int _)
  | with_reducible exact rd_I0 (fun _ => Dp.bl _)
  | with_reducible exact rd_eqA rd_eqI | with_reducible exact rd_neA rd_neI | with_reducible exact rd_eqA rd_eqS | with_reducible exact rd_neA rd_neS
  | with_reducible exact rd_eqA rd_eqIS | with_reducible exact rd_neA rd_neIS | with_reducible exact rd_eqA rd_eqSI | with_reducible exact rd_neA rd_neSI | with_reducible exact rd_eqA rd_eqB | with_reducible exact rd_neA rd_neB
  | ((with_reducible refine rd_I ?_ (fun _ => Dp.int _)); first | assumption | exact ⟨by decide, by decide⟩ | decide | (show (0 : Int) < _; omega))
  | ((with_reducible refine rd_timesI ?_); first | exact Or.inl (by omega) | exact Or.inr (by omega))
  | exact rd_ixT rfl | exact rd_ixL rfl
  | with_reducible exact rd_ixT (by assumption) | with_reducible exact rd_ixL (by assumption))
local macro_rules | `(tactic| walk_at "rc") => `(tactic| with_reducible first
  | exact rc_lenL | exact rc_lenT | exact rc_listL | exact rc_listT | exact rc_tupleL | exact rc_tupleT | exact rc_abs | exact rc_sum | exact rc_all | exact rc_any)
local macro_rules | `(tactic| walk_at "ev") => `(tactic| first
  | exact ev_int | exact ev_str | exact ev_bl | exact ev_non
  | exact ev_var rfl
  | ((with_reducible apply ev_op); (walk_at "ev"); (walk_at "ev"); (walk_at "rd"))
  | ((with_reducible apply ev_cb); (walk_at "ea"); (walk_at "rc"))
  | ((with_reducible apply ev_un); (walk_at "ev"); exact rud_U (fun _ => Dp.int _))
  | ((with_reducible apply ev_tup); (walk_at "ea"); (first | decide | (simp; done)))
  | ((with_reducible apply ev_lst); (walk_at "ea"); (first | decide | (simp; done)))
  | ((with_reducible apply ev_isN); (walk_at "ev"))
  | ((with_reducible apply ev_notN); (walk_at "ev")))
local macro_rules | `(tactic| walk_at "ea") => `(tactic| first
  | exact ea_nil
  | ((with_reducible apply ea_cons); (walk_at "ev"); (walk_at "ea")))
local macro_rules | `(tactic| walk_at "et") => `(tactic| first
  | exact et_yes
  | ((with_reducible apply et_test); (walk_at "ev"))
  | ((with_reducible apply et_B); (walk_at "ev"))
  | ((with_reducible apply et_not); (walk_at "et")))
local macro_rules | `(tactic| walk_at "go") => `(tactic| ((try with_reducible refine d_next ?_); (try with_reducible refine d_nx ?_); (try with_reducible refine d_seq ?_)))
local macro_rules | `(tactic| walk_at "ev=") => `(tactic| (refine ev_is ?h ?e; (case h => walk_at "ev"); (case e => first | rfl | (simp; done) | (simp; rfl))))

/-! ### draws -/
abbrev s_l_draw : Stmt := top 7
theorem sc_l_draw : FnScope ["_law_script", "_law_town", "_law_many", "_law_cell", "_law_k", "_law_digits", "_law_number", "_law_more"] ["_law_script", "_law_town", "_law_many"] (defScope s_l_draw) := ⟨rfl, rfl, rfl, by decide +kernel, rfl, by decide +kernel, by decide +kernel⟩
def drawPre (sc : PyData) (as : List PyData) (n : Nat) : Prop := Scr sc ∧ (∃ m : Int, as = [.int m] ∧ 0 < m) ∧ n ≤ 90000
def drawRes (as : List PyData) (n : Nat) (d : PyData) (n' : Nat) : Prop := ∃ r m : Int, as = [.int m] ∧ d = .int r ∧ 0 ≤ r ∧ r < m ∧ n' = n + 2
def iD : PyData → Int
  | .int i => i
  | _ => 0
theorem emod_in (a : Int) {b : Int} (h : 0 < b) : 0 ≤ a % b ∧ a % b < b := ⟨Int.emod_nonneg _ (Int.ne_of_gt h), Int.emod_lt_of_pos _ h⟩
theorem draw_cell {l : List Sl} {ns : List Int} {k : Int} (h0 : l[0]? = some (.dat (.list (ns.map .int)))) (hk : l[4]? = some (.dat (.int k))) (k0 : 0 ≤ k) :
    ∃ c : Int, Ev K (tIf (fun σ H Q => tVar 0 σ H fun x H' => ∃ k, TruV K x H' k ∧ Q k H') (tOp (rIx K) (tVar 0) (tOp (rI (fun _ j => 0 < j) fun i j => .int (i % j)) (tVar 4)
      (tCB (rLenK K) (tCons (tVar 0) tNil)))) (tC (.int 0))) l (.int c) := by
  cases ns with
  | nil => exact ⟨0, ev_is (ev_if (a := .none) (et_truth (ev_var h0) (fun y z => nomatch z)) (fun z => nomatch z) (fun _ => ev_int)) rfl⟩
  | cons x r =>
    have hp : (0 : Int) < ((List.map PyData.int (x :: r)).length : Nat) := by simp
    have hj := Int.emod_nonneg k (Int.ne_of_gt hp)
    have hj2 := Int.emod_lt_of_pos k hp
    obtain ⟨j, ej⟩ := Int.eq_ofNat_of_zero_le hj
    have hjl : j < (x :: r).length := by
      have : (List.map PyData.int (x :: r)).length = (x :: r).length := List.length_map _
      omega
    have e2 : atI (List.map PyData.int (x :: r)) (k % ((List.map PyData.int (x :: r)).length : Nat)) = some (.int (x :: r)[j]) := by
      rw [ej]
      exact atI_nat (j := j) (by rw [List.getElem?_map, List.getElem?_eq_getElem hjl]; rfl)
    exact ⟨(x :: r)[j], ev_is (ev_if (b := .none) (et_truth (ev_var h0) (fun y z => nomatch z)) (fun _ => ev_op (ev_var h0) (ev_op (ev_var hk) (ev_cb (ea_cons (ev_var h0) ea_nil) rc_lenL) (rd_I hp fun _ => .int _)) (rd_ixL e2)) (fun z => nomatch z)) rfl⟩
theorem ok_draw {f : Addr} {fd : FuncData} {k : Nat} (F : Fun K "_law_draw" "_law_draw" s_l_draw f fd) (B : Bn mg) : FnOk P w K mg base CX0 (k + 1) f fd ["_law_script", "_law_town", "_law_many"] (spT K drawPre drawRes) := by
  refine F.ok sc_l_draw (fun vs H Q E h => ?_) (fun cdv A outer s H vs Q E hr h => ?_)
  · obtain ⟨S, v0, t, ws, sc, as, n, rfl, _, _, _, _, hd, ⟨_, ⟨m, rfl, _⟩, _⟩, _⟩ := h
    have := DpAll_len hd
    simp [this]
  · obtain ⟨S, v0, t, ws, sc, as, n, rfl, hS, h0, hst, ht, hd, ⟨⟨ns, rfl, hns⟩, ⟨m, rfl, hm⟩, hn⟩, q⟩ := h
    cases hd with
    | cons hd1 hd2 =>
    cases hd2
    cases hd1
    refine ⟨_,
      (pss_cons (ps_if (pt_not (k_tru K (pv 1) (by intro _; rfl)))
          (pss_one (ps_expr (pe_bm PySem.F.plainAttrs_list PySem.F.slot_list_append PySem.F.type_list_append mt_append (pv 1) (pa_cons (pe_callB (k_max K rfl) (by rfl) B.max (by decide +kernel) (pa_cons (pe_op (k_plus K) (pe_lc (own := [("_law_cell", 3)]) (by rfl) sc_l_draw.nd (k_seq K (pv 0)) (blkOk_by (own := [("_law_cell", 3)]) (N := ["_law_script", "_law_town", "_law_many", "_law_cell", "_law_k", "_law_digits", "_law_number", "_law_more"]) (sc := defScope s_l_draw) (by decide +kernel)) (fun _ _ _ _ _ => (pg_name (i := 3) sc_l_draw.nd rfl (by first | exact Or.inl rfl | exact Or.inr rfl))) (fun _ _ _ _ _ => pts_nil) (fun _ _ _ _ _ => (pe_callB call_abs (by rfl) B.abs (by decide +kernel) (pa_cons (pv 3) pa_nil)))) (pe_lst (pa_cons pe_int pa_nil))) pa_nil)) pa_nil))))
          pss_nil)
        (pss_cons (ps_expr (pe_bm PySem.F.plainAttrs_list PySem.F.slot_list_append PySem.F.type_list_append mt_append (pv 1) (pa_cons pe_int pa_nil)))
        (pss_cons (ps_set (i := 4) sc_l_draw.nd rfl (by first | exact Or.inl rfl | exact Or.inr rfl) (pe_callB (k_len K) (by rfl) B.len (by decide +kernel) (pa_cons (pv 1) pa_nil)))
        (pss_cons (ps_set (i := 3) sc_l_draw.nd rfl (by first | exact Or.inl rfl | exact Or.inr rfl) (pe_ifExp (k_tru K (pv 0) (by intro _; rfl)) (pe_ix (k_ix K) (pv 0) (pe_op op_mod (pv 4) (pe_callB (k_len K) (by rfl) B.len (by decide +kernel) (pa_cons (pv 0) pa_nil))) (fun _ _ => rfl)) pe_int))
        (pss_cons (ps_set (i := 5) sc_l_draw.nd rfl (by first | exact Or.inl rfl | exact Or.inr rfl) (pe_op op_mod (pe_ix (k_ix K) (pv 1) pe_int (fun _ _ => rfl)) pe_int))
        (pss_cons (ps_asg (pe_op op_fdiv (pe_ix (k_ix K) (pv 1) pe_int (fun _ _ => rfl)) pe_int) (pg_sub (pv 1) pe_int set_list))
        (pss_cons (ps_set (i := 6) sc_l_draw.nd rfl (by first | exact Or.inl rfl | exact Or.inr rfl) (pe_op op_mod (pe_op (k_plus K) (pe_op (k_plus K) (pv 3) (pe_op op_times pe_int (pv 5))) (pe_op op_times pe_int (pv 4))) pe_int))
        (pss_cons (ps_set (i := 6) sc_l_draw.nd rfl (by first | exact Or.inl rfl | exact Or.inr rfl) (pe_op op_mod (pe_op op_times (pe_op op_mod (pe_op op_times (pv 6) (pv 6)) pe_int) pe_int) pe_int))
        (pss_cons (ps_set (i := 7) sc_l_draw.nd rfl (by first | exact Or.inl rfl | exact Or.inr rfl) (pe_op op_mod (pe_op op_times (pe_op op_mod (pe_op op_times (pv 6) (pv 6)) pe_int) pe_int) pe_int))
        (pss_one (ps_ret (pe_op op_mod (pe_op (k_plus K) (pe_op op_times (pe_op op_fdiv (pv 6) pe_int) pe_int) (pe_op op_fdiv (pv 7) pe_int)) (pv 2)))))))))))))
      , ?_⟩
    try simp only [cxK]
    have A0 : At ⟨K, Dz.mt t, S, H, S⟩ [.dat (.list (ns.map .int)), .town t n, .dat (.int m), .no, .no, .no, .no, .no] (start ["_law_script", "_law_town", "_law_many", "_law_cell", "_law_k", "_law_digits", "_law_number", "_law_more"] [v0, .ref t, .int m]) H :=
      ⟨⟨S, Grow.refl hS, env_dat h0 (env_town (env_dat (.int m) (env_no (env_no (env_no (env_no (env_no env_nil)))))) rfl hst ht), Same.refl S⟩, fun t' n' hm => by simp at hm; exact hm.1⟩
    walk_at "go"
    refine dt_if (x := maxI (ns.map (fun i => if i < 0 then -i else i) ++ [0])) A0 rfl ?_ (by omega) fun H1 A1 => ?_
    · refine ev_cb (ea_cons (ev_is (ev_op (ev_lcA (xs := ns) (h := .int) (f := fun i => .int (if i < 0 then -i else i)) (ei_list (ev_var rfl)) (gin_name (by decide)) gmono_name (fun x _ => bd_name) (fun x _ => by walk_at "ev") (by omega)) (by walk_at "ev") (rd_plusL (by simp; omega))) ?_) ea_nil) (rc_max (by simp))
      simp
    walk_at "go"
    refine dt_app A1 rfl ev_int (by omega) fun H2 A2 => ?_
    walk_at "go"
    refine dx_asg A2 rfl (ev_lenTown rfl) fun d n' s' H3 r A3 => ?_
    obtain ⟨⟨x, rfl⟩, rfl⟩ := r
    obtain ⟨c, hc⟩ := draw_cell (K := K) (l := [.dat (.list (ns.map .int)), .town t (n + 1 + 1), .dat (.int m), .no, .dat (.int x), .no, .no, .no]) (ns := ns) (k := x) rfl rfl (by omega)
    walk_at "go"
    refine d_asg A3 hc fun s' H4 A4 => ?_
    walk_at "go"
    refine dx_asg A4 rfl (ex_op (f := fun a b => .int (iD a % iD b)) (ex_town0 rfl (by omega)) (fun a n1 _ => ex_ev ev_int) (fun a n1 b n2 r1 r2 => ?_)) fun d n' s' H5 r A5 => ?_
    · obtain ⟨⟨y, rfl⟩, _⟩ := r1
      obtain ⟨rfl, _⟩ := r2
      exact rd_I (by decide) fun _ => .int _
    obtain ⟨_, _, _, ⟨⟨y, rfl⟩, rfl⟩, ⟨rfl, rfl⟩, rfl⟩ := r
    walk_at "go"
    refine dt_set0 A5 rfl (by omega) (ex_op (f := fun a b => .int (iD a / iD b)) (ex_town0 rfl (by omega)) (fun a n1 _ => ex_ev ev_int) (fun a n1 b n2 r1 r2 => ?_)) (fun d n' r => ?_) fun H6 A6 => ?_
    · obtain ⟨⟨y, rfl⟩, _⟩ := r1
      obtain ⟨rfl, _⟩ := r2
      exact rd_I ⟨by decide, by decide⟩ fun _ => .int _
    · obtain ⟨_, _, _, ⟨⟨y, rfl⟩, rfl⟩, ⟨rfl, rfl⟩, rfl⟩ := r
      exact ⟨⟨_, rfl⟩, rfl⟩
    walk_at "go"
    refine d_asg A6 (by walk_at "ev") fun s' H7 A7 => ?_
    walk_at "go"
    refine d_asg A7 (by walk_at "ev") fun s' H8 A8 => ?_
    walk_at "go"
    refine d_asg A8 (by walk_at "ev") fun s' H9 A9 => ?_
    walk_at "go"
    refine dx_ret (it := 1) A9 rfl (ex_ev (by walk_at "ev")) fun v S' H' d n' r g t1 d1 => ?_
    obtain ⟨rfl, rfl⟩ := r
    exact q v S' H' _ _ ⟨_, m, rfl, rfl, Int.emod_nonneg _ (by omega), Int.emod_lt_of_pos _ hm, rfl⟩ g t1 d1

/-! ### picks -/
abbrev s_l_pick : Stmt := top 8
theorem sc_l_pick : FnScope ["_law_script", "_law_town", "_law_some"] ["_law_script", "_law_town", "_law_some"] (defScope s_l_pick) := ⟨rfl, rfl, rfl, by decide +kernel, rfl, by decide +kernel, by decide +kernel⟩
def ixD (a b : PyData) : PyData := match a, b with
  | .list ds, .int i => (atI ds i).getD .none
  | .tuple ds, .int i => (atI ds i).getD .none
  | _, _ => .none
/-- a row of things: a list or a tuple -/
def Row (d : PyData) (ds : List PyData) : Prop := d = .list ds ∨ d = .tuple ds
theorem rd_row {a : PyData} {ds : List PyData} {i : Int} {j : Nat} (h : Row a ds) (hi : i = (j : Int)) (hj : j < ds.length) : RD K (rIx K) a (.int i) (ixD a (.int i)) ∧ ixD a (.int i) = ds[j] := by
  have e : atI ds i = some ds[j] := by
    rw [hi]
    exact atI_nat (j := j) (List.getElem?_eq_getElem hj)
  rcases h with rfl | rfl
  · have e2 : ixD (.list ds) (.int i) = ds[j] := by show (atI ds i).getD .none = _; rw [e]; rfl
    exact ⟨e2 ▸ rd_ixL e, e2⟩
  · have e2 : ixD (.tuple ds) (.int i) = ds[j] := by show (atI ds i).getD .none = _; rw [e]; rfl
    exact ⟨e2 ▸ rd_ixT e, e2⟩
theorem ev_lenRow {l : List Sl} {te : TE} {a : PyData} {ds : List PyData} (h : Row a ds) (he : Ev K te l a) : Ev K (tCB (rLenK K) (tCons te tNil)) l (.int ds.length) := by
  rcases h with rfl | rfl
  · exact ev_cb (ea_cons he ea_nil) rc_lenL
  · exact ev_cb (ea_cons he ea_nil) rc_lenT
def pickPre (sc : PyData) (as : List PyData) (n : Nat) : Prop := Scr sc ∧ (∃ a ds, as = [a] ∧ Row a ds ∧ ds ≠ []) ∧ n ≤ 90000
def pickRes (as : List PyData) (n : Nat) (d : PyData) (n' : Nat) : Prop := (∀ a ds, as = [a] → Row a ds → d ∈ ds) ∧ n' = n + 2
theorem Row.inj {a : PyData} {ds es : List PyData} (h : Row a ds) (h' : Row a es) : ds = es := by
  rcases h with rfl | rfl <;> rcases h' with e | e <;> first | (cases e; rfl) | cases e
theorem ok_pick {f : Addr} {fd : FuncData} {k : Nat} (F : Fun K "_law_pick" "_law_pick" s_l_pick f fd) (B : Bn mg) (c_l_draw : Cal P w K mg base k "_law_draw" ["_law_script", "_law_town", "_law_many"] (spT K drawPre drawRes)) :
    FnOk P w K mg base CX0 (k + 1) f fd ["_law_script", "_law_town", "_law_some"] (spT K pickPre pickRes) := by
  refine F.ok sc_l_pick (fun vs H Q E h => ?_) (fun cdv A outer s H vs Q E hr h => ?_)
  · obtain ⟨S, v0, t, ws, sc, as, n, rfl, _, _, _, _, hd, ⟨_, ⟨a, ds, rfl, _⟩, _⟩, _⟩ := h
    have := DpAll_len hd
    simp [this]
  · obtain ⟨S, v0, t, ws, sc, as, n, rfl, hS, h0, hst, ht, hd, ⟨hsc, ⟨a, ds, rfl, hrow, hne⟩, hn⟩, q⟩ := h
    cases hd with
    | cons hd1 hd2 =>
    cases hd2
    refine ⟨_,
      (pss_one (ps_ret (pe_ix (k_ix K) (pv 2) (pe_cal c_l_draw hr (pa_cons (pv 0) (pa_cons (pv 1) (pa_cons (pe_callB (k_len K) (by rfl) B.len (by decide +kernel) (pa_cons (pv 2) pa_nil)) pa_nil)))) (fun _ _ => rfl))))
      , ?_⟩
    try simp only [cxK]
    have A0 : At ⟨K, Dz.mt t, S, H, S⟩ [.dat sc, .town t n, .dat a] (start ["_law_script", "_law_town", "_law_some"] [v0, .ref t, _]) H :=
      ⟨⟨S, Grow.refl hS, env_dat h0 (env_town (env_dat hd1 env_nil) rfl hst ht), Same.refl S⟩, fun t' n' hm => by simp at hm; exact hm.1⟩
    have hl : 0 < ds.length := List.length_pos_iff.mpr hne
    refine dx_ret (it := 1) A0 rfl (ex_op (f := ixD) (ex_ev (ev_var rfl)) (fun a1 n1 h1 => ex_dr rfl rfl (exa_ev (ea_cons (ev_lenRow hrow (ev_var rfl)) ea_nil)) (fun as n2 h2 => ?_)) (fun a1 n1 b n2 r1 r2 => ?_)) fun v S' H' d n' r g t1 d1 => ?_
    · obtain ⟨rfl, rfl⟩ := h1
      obtain ⟨rfl, rfl⟩ := h2
      exact ⟨hsc, ⟨_, rfl, by omega⟩, hn⟩
    · obtain ⟨rfl, rfl⟩ := r1
      obtain ⟨_, _, ⟨rfl, rfl⟩, i, m, e, rfl, i0, i1, rfl⟩ := r2
      cases e
      obtain ⟨j, rfl⟩ := Int.eq_ofNat_of_zero_le i0
      exact (rd_row hrow rfl (by omega)).1
    · obtain ⟨_, _, _, ⟨rfl, rfl⟩, ⟨_, _, ⟨rfl, rfl⟩, i, m, e, rfl, i0, i1, rfl⟩, rfl⟩ := r
      cases e
      obtain ⟨j, rfl⟩ := Int.eq_ofNat_of_zero_le i0
      refine q v S' H' _ _ ⟨fun a' ds' e h' => ?_, rfl⟩ g t1 d1
      cases e
      cases hrow.inj h'
      rw [(rd_row (K := K) hrow rfl (by omega)).2]
      exact List.getElem_mem _

/-! ### things in a drawn order -/
abbrev s_l_mixed : Stmt := top 9
theorem sc_l_mixed : FnScope ["_law_script", "_law_town", "_law_things", "_law_rest", "_law_found"] ["_law_script", "_law_town", "_law_things"] (defScope s_l_mixed) := ⟨rfl, rfl, rfl, by decide +kernel, rfl, by decide +kernel, by decide +kernel⟩
def mixPre (sc : PyData) (as : List PyData) (n : Nat) : Prop := Scr sc ∧ (∃ ds, as = [.list ds] ∧ ds.length ≤ 100) ∧ n ≤ 80000
def mixRes (as : List PyData) (n : Nat) (d : PyData) (n' : Nat) : Prop := ∃ ds es, as = [.list ds] ∧ d = .list es ∧ es.Perm ds ∧ n' = n + 2 * ds.length
theorem erase_perm {α : Type} : ∀ (l : List α) (j : Nat) (h : j < l.length), (l[j] :: l.eraseIdx j).Perm l
  | [], j, h => absurd h (Nat.not_lt_zero _)
  | x :: r, 0, h => List.Perm.refl _
  | x :: r, j + 1, h => by
    have hj : j < r.length := by simpa using h
    have ih := erase_perm r j hj
    show (r[j] :: x :: r.eraseIdx j).Perm (x :: r)
    exact (List.Perm.swap x r[j] _).trans (ih.cons x)
theorem ok_mixed {f : Addr} {fd : FuncData} {k : Nat} (F : Fun K "_law_mixed" "_law_mixed" s_l_mixed f fd) (B : Bn mg) (c_l_draw : Cal P w K mg base k "_law_draw" ["_law_script", "_law_town", "_law_many"] (spT K drawPre drawRes)) :
    FnOk P w K mg base CX0 (k + 1) f fd ["_law_script", "_law_town", "_law_things"] (spT K mixPre mixRes) := by
  refine F.ok sc_l_mixed (fun vs H Q E h => ?_) (fun cdv A outer s H vs Q E hr h => ?_)
  · obtain ⟨S, v0, t, ws, sc, as, n, rfl, _, _, _, _, hd, ⟨_, ⟨ds, rfl, _⟩, _⟩, _⟩ := h
    have := DpAll_len hd
    simp [this]
  · obtain ⟨S, v0, t, ws, sc, as, n, rfl, hS, h0, hst, ht, hd, ⟨hsc, ⟨ds, rfl, hl⟩, hn⟩, q⟩ := h
    cases hd with
    | cons hd1 hd2 =>
    cases hd2
    refine ⟨_,
      (pss_cons (ps_par (i := 3) (j := 4) (by rfl) sc_l_mixed.nd rfl rfl (by decide) rfl rfl (pa_cons (pe_callTy (k_list K) (by rfl) B.list (by decide +kernel) (pa_cons (pv 2) pa_nil)) (pa_cons (pe_lst pa_nil) pa_nil)) (by rfl))
        (pss_cons (ps_while PassesOwn.never (k_tru K (pv 3) (by intro _; rfl))
          (pss_one (ps_expr (pe_bm PySem.F.plainAttrs_list PySem.F.slot_list_append PySem.F.type_list_append mt_append (pv 4) (pa_cons (pe_bm PySem.F.plainAttrs_list PySem.F.slot_list_pop PySem.F.type_list_pop mt_popAt (pv 3) (pa_cons (pe_cal c_l_draw hr (pa_cons (pv 0) (pa_cons (pv 1) (pa_cons (pe_callB (k_len K) (by rfl) B.len (by decide +kernel) (pa_cons (pv 3) pa_nil)) pa_nil)))) pa_nil)) pa_nil)))))
        (pss_one (ps_ret (pv 4)))))
      , ?_⟩
    try simp only [cxK]
    have A0 : At ⟨K, Dz.mt t, S, H, S⟩ [.dat sc, .town t n, .dat (.list ds), .no, .no] (start ["_law_script", "_law_town", "_law_things", "_law_rest", "_law_found"] [v0, .ref t, _]) H :=
      ⟨⟨S, Grow.refl hS, env_dat h0 (env_town (env_dat hd1 (env_no (env_no env_nil))) rfl hst ht), Same.refl S⟩, fun t' n' hm => by simp at hm; exact hm.1⟩
    walk_at "go"
    refine d_parLL A0 (el_listL (ev_var rfl)) (el_lst ea_nil (by decide)) fun o1 o2 s1 H1 A1 => ?_
    walk_at "go"
    refine d_while A1 (fun x : List PyData × List PyData => [.dat sc, .town t (n + 2 * x.2.length), .no, .own o1 x.1, .own o2 x.2]) (fun x => (x.1 ++ x.2).Perm ds) (fun x => x.1.length) (fun x => !x.1.isEmpty) (ds, []) (by simp) (.same (.same (.no (.same (.same .nil))))) (fun x hx => et_truthO rfl) (fun x s2 H2 hI hb A2 => ?_) (fun x s2 H2 hI hb A2 => ?_)
    · have hlen := hI.length_eq
      rw [List.length_append] at hlen
      have hne : 0 < x.1.length := by
        cases hx : x.1 with
        | nil => rw [hx] at hb; simp at hb
        | cons y r => simp
      refine dx_appPop (it := 1) (i := 3) (i2 := 4) A2 rfl rfl rfl (ex_dr rfl rfl (exa_ev (ea_cons (ev_lenO rfl) ea_nil)) (fun as n1 h1 => ?_)) (by omega) (by omega) (by decide) (by decide) (by decide) (fun d n' r => ?_) fun j hj n' H' r A3 => ?_
      · obtain ⟨rfl, rfl⟩ := h1
        exact ⟨hsc, ⟨_, rfl, by omega⟩, by omega⟩
      · obtain ⟨_, _, ⟨rfl, rfl⟩, i, m, e, rfl, i0, i1, rfl⟩ := r
        cases e
        obtain ⟨j, rfl⟩ := Int.eq_ofNat_of_zero_le i0
        exact ⟨j, rfl, by omega⟩
      · obtain ⟨_, _, ⟨rfl, rfl⟩, i, m, e, ei, i0, i1, rfl⟩ := r
        refine ⟨(x.1.eraseIdx j, x.2 ++ [x.1[j]]), ?_, ?_, ?_⟩
        · have h1 : x.1.Perm (x.1[j] :: x.1.eraseIdx j) := (erase_perm x.1 j hj).symm
          refine List.Perm.trans ?_ hI
          have h2 : (x.1.eraseIdx j ++ (x.2 ++ [x.1[j]])).Perm (x.1[j] :: x.1.eraseIdx j ++ x.2) := by
            rw [← List.append_assoc]
            exact List.perm_append_comm
          exact h2.trans (h1.symm.append_right x.2)
        · show (x.1.eraseIdx j).length < x.1.length
          rw [List.length_eraseIdx_of_lt hj]
          omega
        · have e2 : n + 2 * (x.2 ++ [x.1[j]]).length = n + 2 * x.2.length + 2 := by simp; omega
          show At _ [.dat sc, .town t (n + 2 * (x.2 ++ [x.1[j]]).length), .no, .own o1 (x.1.eraseIdx j), .own o2 (x.2 ++ [x.1[j]])] _ _
          rw [e2]
          exact A3
    · have hx : x.1 = [] := by
        cases hx : x.1 with
        | nil => rfl
        | cons y r => rw [hx] at hb; simp at hb
      rw [hx] at hI
      walk_at "go"
      have A3 := d_freeze (i := 4) A2 rfl
      refine dx_ret (it := 1) A3 rfl (ex_ev (ev_var rfl)) fun v S' H' d n' r g t1 d1 => ?_
      obtain ⟨rfl, rfl⟩ := r
      refine q v S' H' _ _ ⟨ds, x.2, rfl, rfl, hI, ?_⟩ g t1 d1
      have := hI.length_eq
      simp at this
      omega

/-! ### drawn worths -/
abbrev s_l_drawn_worth : Stmt := top 10
theorem sc_l_drawn_worth : FnScope ["_law_script", "_law_town", "_law_few"] ["_law_script", "_law_town"] (defScope s_l_drawn_worth) := ⟨rfl, rfl, rfl, by decide +kernel, rfl, by decide +kernel, by decide +kernel⟩
def dwPre (sc : PyData) (as : List PyData) (n : Nat) : Prop := Scr sc ∧ as = [] ∧ n ≤ 80000
def IsW (d : PyData) : Prop := ∃ w : Int, d = .int w ∧ -99 ≤ w ∧ w ≤ 99
def dwRes (as : List PyData) (n : Nat) (d : PyData) (n' : Nat) : Prop := IsW d ∧ n' = n + 6
theorem ok_dworth {f : Addr} {fd : FuncData} {k : Nat} (F : Fun K "_law_drawn_worth" "_law_drawn_worth" s_l_drawn_worth f fd) (B : Bn mg) (c_l_draw : Cal P w K mg base k "_law_draw" ["_law_script", "_law_town", "_law_many"] (spT K drawPre drawRes))
    (c_l_pick : Cal P w K mg base k "_law_pick" ["_law_script", "_law_town", "_law_some"] (spT K pickPre pickRes)) :
    FnOk P w K mg base CX0 (k + 1) f fd ["_law_script", "_law_town"] (spT K dwPre dwRes) := by
  refine F.ok sc_l_drawn_worth (fun vs H Q E h => ?_) (fun cdv A outer s H vs Q E hr h => ?_)
  · obtain ⟨S, v0, t, ws, sc, as, n, rfl, _, _, _, _, hd, ⟨_, rfl, _⟩, _⟩ := h
    have := DpAll_len hd
    simp [this]
  · obtain ⟨S, v0, t, ws, sc, as, n, rfl, hS, h0, hst, ht, hd, ⟨hsc, rfl, hn⟩, q⟩ := h
    cases hd
    refine ⟨_,
      (pss_cons (ps_set (i := 2) sc_l_drawn_worth.nd rfl (by first | exact Or.inl rfl | exact Or.inr rfl) (pe_op op_sub (pe_cal c_l_draw hr (pa_cons (pv 0) (pa_cons (pv 1) (pa_cons pe_int pa_nil)))) pe_int))
        (pss_one (ps_ret (pe_cal c_l_pick hr (pa_cons (pv 0) (pa_cons (pv 1) (pa_cons (pe_lst (pa_cons (pv 2) (pa_cons (pv 2) (pa_cons (pv 2) (pa_cons (pv 2) (pa_cons pe_int (pa_cons (pe_un un_neg pe_int) (pa_cons (pe_op op_sub (pe_cal c_l_draw hr (pa_cons (pv 0) (pa_cons (pv 1) (pa_cons pe_int pa_nil)))) pe_int) pa_nil)))))))) pa_nil)))))))
      , ?_⟩
    try simp only [cxK]
    have A0 : At ⟨K, Dz.mt t, S, H, S⟩ [.dat sc, .town t n, .no] (start ["_law_script", "_law_town", "_law_few"] [v0, .ref t]) H :=
      ⟨⟨S, Grow.refl hS, env_dat h0 (env_town (env_no env_nil) rfl hst ht), Same.refl S⟩, fun t' n' hm => by simp at hm; exact hm.1⟩
    walk_at "go"
    refine dx_asg (it := 1) A0 rfl (ex_op (f := fun a b => .int (iD a - iD b)) (ex_dr rfl rfl (exa_ev (by walk_at "ea")) (fun as n1 h1 => ?_)) (fun _ _ _ => ex_ev ev_int) (fun a n1 b n2 r1 r2 => ?_)) fun d n' s1 H1 r A1 => ?_
    · obtain ⟨rfl, rfl⟩ := h1
      exact ⟨hsc, ⟨_, rfl, by decide⟩, by omega⟩
    · obtain ⟨_, _, ⟨rfl, rfl⟩, i, m, e, rfl, i0, i1, rfl⟩ := r1
      obtain ⟨rfl, rfl⟩ := r2
      exact rd_I0 fun _ => .int _
    obtain ⟨_, _, _, ⟨_, _, ⟨rfl, rfl⟩, i, m, e, rfl, i0, i1, rfl⟩, ⟨rfl, rfl⟩, rfl⟩ := r
    cases e
    walk_at "go"
    refine dx_ret (it := 1) A1 rfl (ex_dr rfl rfl (exa_cons (ex_mono (R' := fun d n' => ∃ ds, d = .list ds ∧ ds ≠ [] ∧ (∀ x ∈ ds, IsW x) ∧ n' = n + 4) (ex_lst (exa_cons (ex_ev (ev_var rfl)) (fun _ _ k1 => exa_cons (ex_ev (ev_var rfl)) (fun _ _ k2 => exa_cons (ex_ev (ev_var rfl)) (fun _ _ k3 => exa_cons (ex_ev (ev_var rfl)) (fun _ _ k4 => exa_cons (ex_ev ev_int) (fun _ _ k5 => exa_cons (ex_ev (by walk_at "ev")) (fun _ _ k6 => exa_cons (ex_op (f := fun a b => .int (iD a - iD b)) (ex_dr rfl rfl (exa_ev (by walk_at "ea")) (fun as n1 h1 => ?_)) (fun _ _ _ => ex_ev ev_int) (fun a n1 b n2 r1 r2 => ?_)) (fun _ _ _ => exa_nil)))))))) (fun ds n' r => ?_)) (fun d n' r => ?_)) (fun _ _ _ => exa_nil)) (fun as n1 h1 => ?_)) fun v S' H' d n' r g t1 d1 => ?_
    · obtain ⟨rfl, rfl⟩ := h1
      have := k1.2; have := k2.2; have := k3.2; have := k4.2; have := k5.2; have := k6.2
      exact ⟨hsc, ⟨_, rfl, by decide⟩, by omega⟩
    · obtain ⟨_, _, ⟨rfl, rfl⟩, i, m, e, rfl, i0, i1, rfl⟩ := r1
      obtain ⟨rfl, rfl⟩ := r2
      exact rd_I0 fun _ => .int _
    · obtain ⟨_, _, _, _, ⟨_, _, _, _, ⟨_, _, _, _, ⟨_, _, _, _, ⟨_, _, _, _, ⟨_, _, _, _, ⟨_, _, _, _, ⟨rfl, rfl⟩, rfl⟩, rfl⟩, rfl⟩, rfl⟩, rfl⟩, rfl⟩, rfl⟩ := r
      simp
    · obtain ⟨_, ⟨_, _, _, ⟨rfl, rfl⟩, ⟨_, _, _, ⟨rfl, rfl⟩, ⟨_, _, _, ⟨rfl, rfl⟩, ⟨_, _, _, ⟨rfl, rfl⟩, ⟨_, _, _, ⟨rfl, rfl⟩, ⟨_, _, _, ⟨rfl, rfl⟩, ⟨_, _, _, ⟨_, _, _, ⟨_, _, ⟨rfl, rfl⟩, j, m, e, rfl, j0, j1, rfl⟩, ⟨rfl, rfl⟩, rfl⟩, ⟨rfl, rfl⟩, rfl⟩, rfl⟩, rfl⟩, rfl⟩, rfl⟩, rfl⟩, rfl⟩, rfl⟩ := r
      cases e
      have hi : IsW (.int (i - 2)) := ⟨_, rfl, by omega, by omega⟩
      refine ⟨_, rfl, by simp, fun x hx => ?_, by omega⟩
      simp only [List.mem_cons, List.not_mem_nil, or_false] at hx
      rcases hx with rfl | rfl | rfl | rfl | rfl | rfl | rfl
      · exact hi
      · exact hi
      · exact hi
      · exact hi
      · exact ⟨_, rfl, by decide, by decide⟩
      · exact ⟨_, rfl, by decide, by decide⟩
      · exact ⟨_, rfl, by show -99 ≤ j - 99; omega, by show j - 99 ≤ 99; omega⟩
    · obtain ⟨_, _, _, ⟨ds, rfl, hne, _, rfl⟩, ⟨rfl, rfl⟩, rfl⟩ := h1
      exact ⟨hsc, ⟨_, _, rfl, .inl rfl, hne⟩, by omega⟩
    · obtain ⟨_, _, ⟨_, _, _, ⟨ds, rfl, hne, hW, rfl⟩, ⟨rfl, rfl⟩, rfl⟩, hm, rfl⟩ := r
      exact q v S' H' d _ ⟨hW d (hm _ _ rfl (.inl rfl)), by omega⟩ g t1 d1

/-! ### games as plain data -/
inductive Pl where
  | fin (w : Int)
  | mv (s : Int) (ms : List Nat)
def nD (ms : List Nat) : List PyData := ms.map fun m => PyData.int (m : Nat)
def Pl.d : Pl → PyData
  | .fin w => .tuple [.str "end", .int w]
  | .mv s ms => .tuple [.int s, .tuple (nD ms)]
def gD (g : List Pl) : PyData := .tuple (g.map Pl.d)
def PlOk (n : Nat) : Pl → Prop
  | .fin w => -99 ≤ w ∧ w ≤ 99
  | .mv s ms => (s = 0 ∨ s = 1) ∧ ms ≠ [] ∧ ms.Nodup ∧ (∀ m ∈ ms, m < n) ∧ ms.length ≤ 3
def Pl.moves : Pl → List Nat
  | .fin _ => []
  | .mv _ ms => ms
structure Good (g : List Pl) : Prop where
  ok : ∀ (p : Nat) (x : Pl), g[p]? = some x → PlOk g.length x
  len : g.length ≤ 12
structure Straight (g : List Pl) : Prop where
  ex : ∃ rk : Nat → Nat, (∀ (p : Nat) (x : Pl) (m : Nat), g[p]? = some x → m ∈ x.moves → rk m < rk p) ∧ ∀ p, p < g.length → rk p < g.length
theorem PlOk.mono {n m : Nat} (h : n ≤ m) : ∀ {x : Pl}, PlOk n x → PlOk m x
  | .fin _, q => q
  | .mv _ _, q => ⟨q.1, q.2.1, q.2.2.1, fun k hk => Nat.lt_of_lt_of_le (q.2.2.2.1 k hk) h, q.2.2.2.2⟩
/-- rows that lead down, each place given another number -/
def ren (es : List Nat) : Pl → Pl
  | .fin w => .fin w
  | .mv s ms => .mv s (ms.map fun m => es.getD m 0)
theorem rng_nat (n : Nat) : rng 0 n = nD (List.range n) := by
  unfold rng nD
  apply List.map_congr_left
  intro i _
  simp
theorem nD_perm {es : List PyData} {n : Nat} (h : es.Perm (nD (List.range n))) : ∃ ns : List Nat, es = nD ns ∧ ns.Perm (List.range n) := by
  have key : ∀ (a b : List PyData), a.Perm b → ∀ ns : List Nat, b = nD ns → ∃ ms : List Nat, a = nD ms ∧ ms.Perm ns := by
    intro a b hp
    induction hp with
    | nil => intro ns e; cases ns with
      | nil => exact ⟨[], rfl, List.Perm.refl _⟩
      | cons x r => simp [nD] at e
    | @cons x l1 l2 _ ih => intro ns e; cases ns with
      | nil => simp [nD] at e
      | cons y r =>
        have e1 : x = PyData.int (y : Nat) ∧ l2 = nD r := by simpa [nD] using e
        obtain ⟨ms, e2, p2⟩ := ih r e1.2
        exact ⟨y :: ms, by rw [e1.1, e2]; rfl, p2.cons y⟩
    | swap x y l2 => intro ns e; match ns, e with
      | [], e => simp [nD] at e
      | [_], e => simp [nD] at e
      | u :: v :: r, e =>
        have e1 : x = PyData.int (u : Nat) ∧ y = PyData.int (v : Nat) ∧ l2 = nD r := by simpa [nD] using e
        exact ⟨v :: u :: r, by rw [e1.1, e1.2.1, e1.2.2]; rfl, List.Perm.swap u v r⟩
    | trans _ _ ih1 ih2 => intro ns e; obtain ⟨ms, e1, p1⟩ := ih2 ns e; obtain ⟨ks, e2, p2⟩ := ih1 ms e1; exact ⟨ks, e2, p2.trans p1⟩
  exact key _ _ h _ rfl
theorem nD_get {ns : List Nat} {i : Nat} {m : Nat} (h : ns[i]? = some m) : (nD ns)[i]? = some (PyData.int (m : Nat)) := by
  unfold nD
  rw [List.getElem?_map, h]
  rfl
theorem nD_len (ns : List Nat) : (nD ns).length = ns.length := List.length_map _
theorem nD_take (ns : List Nat) (k : Nat) : (nD ns).take k = nD (ns.take k) := by unfold nD; rw [List.map_take]
theorem getD_lt {α : Type} {l : List α} {i : Nat} {d : α} (h : i < l.length) : l.getD i d = l[i] := by rw [List.getD_eq_getElem?_getD, List.getElem?_eq_getElem h]; rfl
/-- the rows rs, each place j being number es[j] then -/
def renG (es : List Nat) (rs : List Pl) : List Pl := (List.range rs.length).map fun p => ren es (rs.getD (es.idxOf p) (.fin 0))
theorem renG_len (es : List Nat) (rs : List Pl) : (renG es rs).length = rs.length := by simp [renG]
section
variable {es : List Nat} {rs : List Pl} (hes : es.Perm (List.range rs.length))
include hes
theorem es_len : es.length = rs.length := by rw [hes.length_eq, List.length_range]
theorem es_nd : es.Nodup := hes.nodup_iff.mpr List.nodup_range
theorem es_ix {p : Nat} (h : p < rs.length) : es.idxOf p < rs.length ∧ es[es.idxOf p]? = some p := by
  have hm : p ∈ es := hes.mem_iff.mpr (List.mem_range.mpr h)
  have hl := List.idxOf_lt_length_of_mem hm
  refine ⟨by rw [← es_len hes]; exact hl, ?_⟩
  rw [List.getElem?_eq_getElem hl, List.getElem_idxOf hl]
theorem es_lt {j : Nat} (h : j < rs.length) : es.getD j 0 < rs.length := by
  have hl : j < es.length := by rw [es_len hes]; exact h
  rw [getD_lt hl]
  exact List.mem_range.mp (hes.mem_iff.mp (List.getElem_mem hl))
theorem es_of {j : Nat} (h : j < rs.length) : es.idxOf (es.getD j 0) = j := by
  have hl : j < es.length := by rw [es_len hes]; exact h
  rw [getD_lt hl]
  exact (es_nd hes).idxOf_getElem j hl
theorem renG_get {p : Nat} {x : Pl} (h : (renG es rs)[p]? = some x) : p < rs.length ∧ ∃ y, rs[es.idxOf p]? = some y ∧ x = ren es y := by
  have hp : p < rs.length := by
    have := (List.getElem?_eq_some_iff.mp h).1
    rwa [renG_len] at this
  refine ⟨hp, ?_⟩
  have hj := (es_ix hes hp).1
  unfold renG at h
  rw [List.getElem?_map, List.getElem?_range hp] at h
  refine ⟨rs[es.idxOf p], List.getElem?_eq_getElem hj, ?_⟩
  have h2 : x = ren es (rs.getD (es.idxOf p) (.fin 0)) := (Option.some.inj h).symm
  rw [getD_lt hj] at h2
  exact h2
theorem renG_good (hok : ∀ (j : Nat) (p : Pl), rs[j]? = some p → PlOk j p) (hl : rs.length ≤ 12) : Good (renG es rs) := by
  refine ⟨fun p x h => ?_, by rw [renG_len]; exact hl⟩
  obtain ⟨hp, y, hy, rfl⟩ := renG_get hes h
  rw [renG_len]
  have hj := (es_ix hes hp).1
  have ho := hok _ _ hy
  cases y with
  | fin w => exact ho
  | mv s ms =>
    obtain ⟨h1, h2, h3, h4, h5⟩ := ho
    refine ⟨h1, fun z => h2 (by simpa using z), ?_, fun m hm => ?_, by rw [List.length_map]; exact h5⟩
    · show (ms.map _).Pairwise (· ≠ ·)
      rw [List.pairwise_map]
      refine List.Pairwise.imp_of_mem ?_ h3
      intro a b ha hb hab z
      have e1 := es_of hes (Nat.lt_trans (h4 a ha) hj)
      have e2 := es_of hes (Nat.lt_trans (h4 b hb) hj)
      rw [z, e2] at e1
      exact hab e1.symm
    · obtain ⟨k, hk, rfl⟩ := List.mem_map.mp hm
      exact es_lt hes (Nat.lt_trans (h4 k hk) hj)
theorem renG_straight (hok : ∀ (j : Nat) (p : Pl), rs[j]? = some p → PlOk j p) : Straight (renG es rs) := by
  refine ⟨es.idxOf, fun p x m h hm => ?_, fun p hp => ?_⟩
  · obtain ⟨hp, y, hy, rfl⟩ := renG_get hes h
    have hj := (es_ix hes hp).1
    cases y with
    | fin w => cases hm
    | mv s ms =>
      obtain ⟨_, _, _, h4, _⟩ := hok _ _ hy
      obtain ⟨k, hk, rfl⟩ := List.mem_map.mp hm
      show es.idxOf (es.getD k 0) < es.idxOf p
      rw [es_of hes (Nat.lt_trans (h4 k hk) hj)]
      exact h4 k hk
  · rw [renG_len] at hp ⊢
    exact (es_ix hes hp).1
theorem renG_is {x : List PyData} (hl : x.length = rs.length) (h : ∀ (j : Nat) (p : Pl) (e : Nat), j < rs.length → rs[j]? = some p → es[j]? = some e → x[e]? = some (ren es p).d) : x = (renG es rs).map Pl.d := by
  apply List.ext_getElem?
  intro p
  by_cases hp : p < rs.length
  · obtain ⟨hj, he⟩ := es_ix hes hp
    rw [h _ _ p hj (List.getElem?_eq_getElem hj) he, List.getElem?_map]
    unfold renG
    rw [List.getElem?_map, List.getElem?_range hp, Option.map_some, Option.map_some, getD_lt hj]
  · rw [List.getElem?_eq_none (by omega), List.getElem?_eq_none (by rw [List.length_map, renG_len]; omega)]
end
theorem nD_inj : ∀ {xs ys : List Nat}, nD xs = nD ys → xs = ys
  | [], [], _ => rfl
  | [], _ :: _, h => by simp [nD] at h
  | _ :: _, [], h => by simp [nD] at h
  | x :: xs, y :: ys, h => by
    have h1 : PyData.int (x : Nat) = .int (y : Nat) ∧ nD xs = nD ys := by
      have := List.cons.inj (show PyData.int (x : Nat) :: nD xs = .int (y : Nat) :: nD ys from h)
      exact this
    have h2 : (x : Int) = y := PyData.int.inj h1.1
    rw [nD_inj h1.2, show x = y by omega]
theorem Pl.d_inj {x y : Pl} (h : x.d = y.d) : x = y := by
  cases x with
  | fin w =>
    cases y with
    | fin v =>
      have h1 := PyData.tuple.inj h
      rw [PyData.int.inj (List.cons.inj (List.cons.inj h1).2).1]
    | mv s ms =>
      have h1 := PyData.tuple.inj h
      cases (List.cons.inj h1).1
  | mv s ms =>
    cases y with
    | fin v =>
      have h1 := PyData.tuple.inj h
      cases (List.cons.inj h1).1
    | mv s' ms' =>
      have h1 := PyData.tuple.inj h
      have h2 := PyData.int.inj (List.cons.inj h1).1
      have h3 := nD_inj (PyData.tuple.inj (List.cons.inj (List.cons.inj h1).2).1)
      rw [h2, h3]
theorem gD_inj {g g' : List Pl} (h : gD g = gD g') : g = g' := by
  have h1 : g.map Pl.d = g'.map Pl.d := PyData.tuple.inj h
  exact List.map_inj_right (fun _ _ e => Pl.d_inj e) |>.mp h1
theorem ev_lenG {l : List Sl} {i : Nat} {g : List Pl} (h : l[i]? = some (.dat (gD g))) : Ev K (tCB (rLenK K) (tCons (tVar i) tNil)) l (.int (g.length : Nat)) :=
  ev_is (ev_cb (ea_cons (ev_var h) ea_nil) (rc_lenT (ds := g.map Pl.d))) (by rw [List.length_map])
theorem gD_at {g : List Pl} {p : Nat} {x : Pl} (h : g[p]? = some x) : atI (g.map Pl.d) (p : Int) = some x.d := atI_nat (by rw [List.getElem?_map, h]; rfl)

/-! ### straight games -/
abbrev s_l_straight : Stmt := top 11
theorem sc_l_straight : FnScope ["_law_script", "_law_town", "_law_many", "_law_rows", "_law_place", "_law_some", "_law_names", "_law_found", "_law_side", "_law_more", "_law_move"] ["_law_script", "_law_town", "_law_many"] (defScope s_l_straight) := ⟨rfl, rfl, rfl, by decide +kernel, rfl, by decide +kernel, by decide +kernel⟩
def lD : PyData → List PyData
  | .list ds => ds
  | _ => []
def bD : PyData → Bool
  | .bool b => b
  | _ => false
def strPre (sc : PyData) (as : List PyData) (n : Nat) : Prop := Scr sc ∧ (∃ m : Nat, as = [.int m] ∧ 1 ≤ m ∧ m ≤ 12) ∧ n ≤ 70000
def strRes (as : List PyData) (n : Nat) (d : PyData) (n' : Nat) : Prop := ∃ (m : Nat) (g : List Pl), as = [.int m] ∧ d = gD g ∧ g.length = m ∧ Good g ∧ Straight g ∧ n' = n + 1000
theorem ok_straight {f : Addr} {fd : FuncData} {k : Nat} (F : Fun K "_law_straight" "_law_straight" s_l_straight f fd) (B : Bn mg) (c_l_draw : Cal P w K mg base k "_law_draw" ["_law_script", "_law_town", "_law_many"] (spT K drawPre drawRes))
    (c_l_mixed : Cal P w K mg base k "_law_mixed" ["_law_script", "_law_town", "_law_things"] (spT K mixPre mixRes))
    (c_l_drawn_worth : Cal P w K mg base k "_law_drawn_worth" ["_law_script", "_law_town"] (spT K dwPre dwRes)) :
    FnOk P w K mg base CX0 (k + 1) f fd ["_law_script", "_law_town", "_law_many"] (spT K strPre strRes) := by
  refine F.ok sc_l_straight (fun vs H Q E h => ?_) (fun cdv A outer s H vs Q E hr h => ?_)
  · obtain ⟨S, v0, t, ws, sc, as, n, rfl, _, _, _, _, hd, ⟨_, ⟨m, rfl, _⟩, _⟩, _⟩ := h
    have := DpAll_len hd
    simp [this]
  · obtain ⟨S, v0, t, ws, sc, as, n, rfl, hS, h0, hst, ht, hd, ⟨hsc, ⟨m, rfl, hm1, hm2⟩, hn⟩, q⟩ := h
    cases hd with
    | cons hd1 hd2 =>
    cases hd2
    refine ⟨_,
      (pss_cons (ps_set (i := 3) sc_l_straight.nd rfl (by first | exact Or.inl rfl | exact Or.inr rfl) (pe_lst pa_nil))
        (pss_cons (ps_for PassesOwn.never rfl (pi_range1 (by rfl) B.range (pa_cons (pv 2) pa_nil)) (pg_name (i := 4) sc_l_straight.nd rfl (by first | exact Or.inl rfl | exact Or.inr rfl))
          (pss_cons (ps_set (i := 5) sc_l_straight.nd rfl (by first | exact Or.inl rfl | exact Or.inr rfl) (pe_slice (k_sl K) (pe_cal c_l_mixed hr (pa_cons (pv 0) (pa_cons (pv 1) (pa_cons (pe_listRg rfl (by rfl) B.list (prg_1 (by rfl) B.range (pv 4))) pa_nil)))) po_none (po_some (pe_op (k_plus K) pe_int (pe_cal c_l_draw hr (pa_cons (pv 0) (pa_cons (pv 1) (pa_cons pe_int pa_nil))))))))
          (pss_one (ps_if (PW.pt (pw_or (pt_cmpR op_lt (pv 4) pe_int (nomark _)) (pw_or1 (pt_cmpR (k_eq K hr.units) (pe_cal c_l_draw hr (pa_cons (pv 0) (pa_cons (pv 1) (pa_cons pe_int pa_nil)))) pe_int (nomark _)))))
            (pss_one (ps_expr (pe_bm PySem.F.plainAttrs_list PySem.F.slot_list_append PySem.F.type_list_append mt_append (pv 3) (pa_cons (pe_tup (pa_cons pe_str (pa_cons (pe_cal c_l_drawn_worth hr (pa_cons (pv 0) (pa_cons (pv 1) pa_nil))) pa_nil))) pa_nil))))
            (pss_one (ps_expr (pe_bm PySem.F.plainAttrs_list PySem.F.slot_list_append PySem.F.type_list_append mt_append (pv 3) (pa_cons (pe_tup (pa_cons (pe_cal c_l_draw hr (pa_cons (pv 0) (pa_cons (pv 1) (pa_cons pe_int pa_nil)))) (pa_cons (pe_callTy (k_tuple K) (by rfl) B.tuple (by decide +kernel) (pa_cons (pv 5) pa_nil)) pa_nil))) pa_nil))))))))
        (pss_cons (ps_set (i := 6) sc_l_straight.nd rfl (by first | exact Or.inl rfl | exact Or.inr rfl) (pe_cal c_l_mixed hr (pa_cons (pv 0) (pa_cons (pv 1) (pa_cons (pe_listRg rfl (by rfl) B.list (prg_1 (by rfl) B.range (pv 2))) pa_nil)))))
        (pss_cons (ps_set (i := 7) sc_l_straight.nd rfl (by first | exact Or.inl rfl | exact Or.inr rfl) (pe_op op_times (pe_lst (pa_cons pe_non pa_nil)) (pv 2)))
        (pss_cons (ps_for PassesOwn.never rfl (pi_enum (by rfl) B.enumerate (pa_cons (pv 3) pa_nil)) (k_tup (n := 2) K rfl (pgs_cons (pg_name (i := 4) sc_l_straight.nd rfl (by first | exact Or.inl rfl | exact Or.inr rfl)) (pgs_cons (k_tup (n := 2) K rfl (pgs_cons (pg_name (i := 8) sc_l_straight.nd rfl (by first | exact Or.inl rfl | exact Or.inr rfl)) (pgs_cons (pg_name (i := 9) sc_l_straight.nd rfl (by first | exact Or.inl rfl | exact Or.inr rfl)) pgs_nil))) pgs_nil)))
          (pss_one (ps_asg (pe_ifExp (pt_cmpR (k_eq K hr.units) (pv 8) pe_str (nomark _)) (pe_tup (pa_cons (pv 8) (pa_cons (pv 9) pa_nil))) (pe_tup (pa_cons (pv 8) (pa_cons (pe_callTy (k_tuple K) (by rfl) B.tuple (by decide +kernel) (pa_cons (pe_lc (own := [("_law_move", 10)]) (by rfl) sc_l_straight.nd (k_seq K (pv 9)) (blkOk_by (own := [("_law_move", 10)]) (N := ["_law_script", "_law_town", "_law_many", "_law_rows", "_law_place", "_law_some", "_law_names", "_law_found", "_law_side", "_law_more", "_law_move"]) (sc := defScope s_l_straight) (by decide +kernel)) (fun _ _ _ _ _ => (pg_name (i := 10) sc_l_straight.nd rfl (by first | exact Or.inl rfl | exact Or.inr rfl))) (fun _ _ _ _ _ => pts_nil) (fun _ _ _ _ _ => (pe_ix (k_ix K) (pv 6) (pv 10) (fun _ _ => rfl)))) pa_nil)) pa_nil)))) (pg_sub (pv 7) (pe_ix (k_ix K) (pv 6) (pv 4) (fun _ _ => rfl)) set_list))))
        (pss_one (ps_ret (pe_callTy (k_tuple K) (by rfl) B.tuple (by decide +kernel) (pa_cons (pv 7) pa_nil)))))))))
      , ?_⟩
    try simp only [cxK]
    have A0 : At ⟨K, Dz.mt t, S, H, S⟩ [.dat sc, .town t n, .dat (.int m), .no, .no, .no, .no, .no, .no, .no, .no] (start ["_law_script", "_law_town", "_law_many", "_law_rows", "_law_place", "_law_some", "_law_names", "_law_found", "_law_side", "_law_more", "_law_move"] [v0, .ref t, _]) H :=
      ⟨⟨S, Grow.refl hS, env_dat h0 (env_town (env_dat hd1 (env_no (env_no (env_no (env_no (env_no (env_no (env_no (env_no env_nil))))))))) rfl hst ht), Same.refl S⟩, fun t' n' hm => by simp at hm; exact hm.1⟩
    walk_at "go"
    refine d_asgL A0 (el_lst ea_nil (by decide)) fun o s1 H1 A1 => ?_
    walk_at "go"
    refine d_for A1 (ei_rng1 (ev_var rfl) (by omega) (by omega)) (fun x : List Pl × Nat => [.dat sc, .town t x.2, .dat (.int m), .own o (x.1.map Pl.d), .no, .no, .no, .no, .no, .no, .no])
      (fun i x => x.1.length = i ∧ (∀ (j : Nat) (p : Pl), x.1[j]? = some p → PlOk j p) ∧ n ≤ x.2 ∧ x.2 ≤ n + 40 * i)
      (fun x d => [.dat sc, .town t x.2, .dat (.int m), .own o (x.1.map Pl.d), .dat d, .no, .no, .no, .no, .no, .no]) ([], n) ⟨rfl, fun j p e => by simp at e, by omega, by omega⟩ (.same (.same (.same (.same (.no (.no (.no (.no (.no (.no (.no .nil)))))))))))
      (fun i x d hd hI => bd_name) (fun x d t' n' hm => by simp at hm ⊢; exact hm) (fun i x d S1 s2 H2 hd hI A2 => ?_) (fun x s2 H2 hI A2 => ?_)
    · obtain ⟨hi, rfl⟩ := rng_get hd
      obtain ⟨hl, hok, hn1, hn2⟩ := hI
      simp only [Int.toNat_natCast] at hi
      walk_at "go"
      refine dx_asg (it := 1) A2 rfl (ex_slHi (f := lD) (g := iD) (ex_dr rfl rfl (exa_ev (ea_cons (ev_listRg (ev_var rfl) (by omega) (by omega)) ea_nil)) (fun as n1 h1 => ?_)) (fun a n1 r => ?_) (fun a n1 r => ex_op (f := fun a b => .int (iD a + iD b)) (ex_ev ev_int) (fun a n2 h2 => ex_dr rfl rfl (exa_ev (by walk_at "ea")) (fun as n3 h3 => ?_)) (fun a n1 b n2 r1 r2 => ?_)) (fun a n1 b n2 r1 r2 => ?_)) fun d n' s3 H3 r A3 => ?_
      · obtain ⟨rfl, rfl⟩ := h1
        exact ⟨hsc, ⟨_, rfl, by rw [rng_len]; omega⟩, by omega⟩
      · obtain ⟨_, _, ⟨rfl, rfl⟩, ds, es, e, rfl, _⟩ := r
        rfl
      · obtain ⟨_, _, ⟨rfl, rfl⟩, ds, es, e, rfl, _, rfl⟩ := r
        obtain ⟨rfl, rfl⟩ := h2
        obtain ⟨rfl, rfl⟩ := h3
        cases e
        rw [rng_len]
        exact ⟨hsc, ⟨_, rfl, by decide⟩, by omega⟩
      · obtain ⟨rfl, rfl⟩ := r1
        obtain ⟨_, _, ⟨rfl, rfl⟩, i, m, e, rfl, i0, i1, rfl⟩ := r2
        exact rd_plusI
      · obtain ⟨_, _, _, ⟨rfl, rfl⟩, ⟨_, _, ⟨rfl, rfl⟩, i, m, e, rfl, i0, i1, rfl⟩, rfl⟩ := r2
        rfl
      obtain ⟨_, _, _, ⟨_, _, ⟨rfl, rfl⟩, ds, es, e, rfl, hperm, rfl⟩, ⟨_, _, _, ⟨rfl, rfl⟩, ⟨_, _, ⟨rfl, rfl⟩, r, m', e', rfl, r0, r1, rfl⟩, rfl⟩, rfl⟩ := r
      cases e
      cases e'
      rw [show (0 + (i : Int)).toNat = i by omega, rng_nat] at hperm
      obtain ⟨ns, rfl, hns⟩ := nD_perm hperm
      obtain ⟨r', rfl⟩ := Int.eq_ofNat_of_zero_le r0
      have ecut : cutD (lD (.list (nD ns))) none (some (iD (.int (iD (.int 1) + iD (.int (r' : Nat)))))) = nD (ns.take (r' + 1)) := by
        show cutD (nD ns) none (some (1 + (r' : Int))) = _
        rw [show (1 + (r' : Int)) = ((r' + 1 : Nat) : Int) by omega, cutD_take, nD_take]
      rw [ecut] at A3
      rw [rng_len] at A3
      rw [show (0 + (i : Int)).toNat = i by omega] at A3
      generalize hms : ns.take (r' + 1) = ms at A3
      have hmm : ∀ x ∈ ms, x < i := fun y hy => by
        rw [← hms] at hy
        exact List.mem_range.mp (hns.mem_iff.mp (List.mem_of_mem_take hy))
      have hmn : ms.Nodup := by
        rw [← hms]
        exact (List.take_sublist _ _).nodup (hns.nodup_iff.mpr List.nodup_range)
      have hml : ms.length ≤ 3 := by
        rw [← hms, List.length_take]
        omega
      have hmne : 1 ≤ i → ms ≠ [] := fun h1 z => by
        have e1 : ms.length = min (r' + 1) i := by rw [← hms, List.length_take, hns.length_eq, List.length_range]
        rw [z] at e1
        simp at e1
        omega
      walk_at "go"
      refine dx_if (it := 1) A3 rfl (ext_or (ext_ev (et_test (by walk_at "ev"))) (fun n1 h => ext_test (f := bD) (ex_op (f := fun a b => .bool (decide (iD a = iD b))) (ex_dr rfl rfl (exa_ev (by walk_at "ea")) (fun as n2 h2 => ?_)) (fun _ _ _ => ex_ev ev_int) (fun a n1 b n2 r1 r2 => ?_)) (fun d n' r => ?_))) (fun n' H4 r A4 => ?_) (fun n' H4 r A4 => ?_)
      · obtain ⟨rfl, rfl⟩ := h2
        exact ⟨hsc, ⟨_, rfl, by decide⟩, by have := h.2; omega⟩
      · obtain ⟨_, _, ⟨rfl, rfl⟩, i, m, e, rfl, i0, i1, rfl⟩ := r1
        obtain ⟨rfl, rfl⟩ := r2
        exact rd_eqA rd_eqI
      · obtain ⟨_, _, _, _, _, rfl⟩ := r
        rfl
      · have hn3 : n' ≤ x.2 + 2 * i + 2 + 2 := by
          rcases r with ⟨_, _, rfl⟩ | ⟨n1, ⟨_, rfl⟩, _, ⟨_, _, _, ⟨_, _, ⟨rfl, rfl⟩, _, _, _, _, _, _, rfl⟩, ⟨rfl, rfl⟩, rfl⟩, _⟩ <;> omega
        have hn4 : n ≤ n' := by
          rcases r with ⟨_, _, rfl⟩ | ⟨n1, ⟨_, rfl⟩, _, ⟨_, _, _, ⟨_, _, ⟨rfl, rfl⟩, _, _, _, _, _, _, rfl⟩, ⟨rfl, rfl⟩, rfl⟩, _⟩ <;> omega
        clear r
        refine dx_app (it := 1) (j := 3) A4 rfl rfl (ex_tup (exa_cons (ex_ev ev_str) (fun _ _ h1 => exa_cons (ex_dr rfl rfl exa_nil (fun as n2 h2 => ?_)) (fun _ _ _ => exa_nil))) (fun ds n' r => ?_)) (by simp; omega) (by decide) (fun d n3 H5 r A5 => ?_)
        · obtain ⟨rfl, rfl⟩ := h2
          exact ⟨hsc, rfl, by have := h1.2; omega⟩
        · obtain ⟨_, _, _, _, ⟨_, _, _, _, ⟨rfl, rfl⟩, rfl⟩, rfl⟩ := r
          simp
        · obtain ⟨_, ⟨_, _, _, ⟨rfl, rfl⟩, ⟨_, _, _, ⟨_, _, ⟨rfl, rfl⟩, ⟨w, rfl, hw⟩, rfl⟩, ⟨rfl, rfl⟩, rfl⟩, rfl⟩, rfl⟩ := r
          refine ⟨(x.1 ++ [.fin w], n' + 6), ⟨by simp [hl], fun j p e => ?_, by show n ≤ n' + 6; omega, by show n' + 6 ≤ _; omega⟩, A5.weak ?_⟩
          · rw [List.getElem?_append] at e
            split at e
            · exact hok j p e
            · rw [List.getElem?_singleton] at e
              split at e
              · cases e; exact hw
              · cases e
          · show Weak _ [.dat sc, .town t (n' + 6), .dat (.int m), .own o ((x.1 ++ [Pl.fin w]).map Pl.d), .no, .no, .no, .no, .no, .no, .no]
            rw [List.map_append]
            exact .same (.same (.same (.same (.no (.no (.no (.no (.no (.no (.no .nil))))))))))
      · rcases r with ⟨z, _⟩ | ⟨n1, ⟨hi2, rfl⟩, _, ⟨_, _, _, ⟨_, _, ⟨rfl, rfl⟩, _, _, _, _, _, _, rfl⟩, ⟨rfl, rfl⟩, rfl⟩, _⟩
        · cases z
        have hi3 : 2 ≤ i := by
          have := of_decide_eq_false hi2
          omega
        refine dx_app (it := 1) (j := 3) A4 rfl rfl (ex_tup (exa_cons (ex_dr rfl rfl (exa_ev (by walk_at "ea")) (fun as n2 h2 => ?_)) (fun _ _ _ => exa_cons (ex_ev (ev_cb (ea_cons (ev_var rfl) ea_nil) rc_tupleL)) (fun _ _ _ => exa_nil))) (fun ds n' r => ?_)) (by simp; omega) (by decide) (fun d n3 H5 r A5 => ?_)
        · obtain ⟨rfl, rfl⟩ := h2
          exact ⟨hsc, ⟨_, rfl, by decide⟩, by omega⟩
        · obtain ⟨_, _, _, _, ⟨_, _, _, _, ⟨rfl, rfl⟩, rfl⟩, rfl⟩ := r
          simp
        · obtain ⟨_, ⟨_, _, _, ⟨_, _, ⟨rfl, rfl⟩, sd, _, e, rfl, s0, s1, rfl⟩, ⟨_, _, _, ⟨rfl, rfl⟩, ⟨rfl, rfl⟩, rfl⟩, rfl⟩, rfl⟩ := r
          cases e
          refine ⟨(x.1 ++ [.mv sd ms], x.2 + 2 * i + 2 + 2 + 2), ⟨by simp [hl], fun j p e => ?_, ?_, ?_⟩, A5.weak ?_⟩
          · rw [List.getElem?_append] at e
            split at e
            · exact hok j p e
            · rename_i hj
              rw [List.getElem?_singleton] at e
              split at e
              · cases e
                have ej : j = i := by omega
                subst ej
                exact ⟨by omega, hmne (by omega), hmn, hmm, hml⟩
              · cases e
          · show n ≤ x.2 + 2 * i + 2 + 2 + 2
            omega
          · show x.2 + 2 * i + 2 + 2 + 2 ≤ _
            omega
          · show Weak _ [.dat sc, .town t (x.2 + 2 * i + 2 + 2 + 2), .dat (.int m), .own o ((x.1 ++ [Pl.mv sd ms]).map Pl.d), .no, .no, .no, .no, .no, .no, .no]
            rw [List.map_append]
            exact .same (.same (.same (.same (.no (.no (.no (.no (.no (.no (.no .nil))))))))))
    · obtain ⟨hl, hok, hn1, hn2⟩ := hI
      rw [rng_len, Int.toNat_natCast] at hl hn2
      generalize hrs : x.1 = rs at *
      generalize hnn : x.2 = nn at *
      walk_at "go"
      refine dx_asg (it := 1) A2 rfl (ex_dr rfl rfl (exa_ev (ea_cons (ev_listRg (ev_var rfl) (by omega) (by omega)) ea_nil)) (fun as n1 h1 => ?_)) fun d n' s3 H3 r A3 => ?_
      · obtain ⟨rfl, rfl⟩ := h1
        exact ⟨hsc, ⟨_, rfl, by rw [rng_len]; omega⟩, by omega⟩
      obtain ⟨_, _, ⟨rfl, rfl⟩, ds, es', e, rfl, hperm, rfl⟩ := r
      cases e
      rw [Int.toNat_natCast, rng_nat] at hperm
      obtain ⟨es, rfl, hes⟩ := nD_perm hperm
      rw [rng_len, Int.toNat_natCast] at A3
      walk_at "go"
      refine d_asgL A3 (el_rep (ea_cons ev_non ea_nil) (ev_var rfl) ⟨by omega, by omega⟩ (by decide)) fun o2 s4 H4 A4 => ?_
      have A5 := d_freeze (i := 3) A4 rfl
      walk_at "go"
      have hel : es.length = m := by rw [hes.length_eq, List.length_range]
      have hes' : es.Perm (List.range rs.length) := by rw [hl]; exact hes
      refine d_forG A5 (ei_enum (ev_var rfl)) (fun x : List PyData => [.dat sc, .town t (nn + 2 * m), .dat (.int m), .dat (.list (rs.map Pl.d)), .no, .no, .dat (.list (nD es)), .own o2 x, .no, .no, .no])
        (fun i x => x.length = m ∧ ∀ (j : Nat) (p : Pl) (e : Nat), j < i → rs[j]? = some p → es[j]? = some e → x[e]? = some (ren es p).d) _ ⟨?_, fun j p e hj => absurd hj (Nat.not_lt_zero _)⟩ (.same (.same (.same (.same (.no (.no (.same (.same (.no (.no (.no .nil))))))))))) (fun i x d S1 hd hI => ?_) (fun x s5 H5 hI A6 => ?_)
      · simp
      · obtain ⟨e, he, rfl⟩ := enumD_get hd
        rw [List.getElem?_map] at he
        obtain ⟨p, hp, rfl⟩ : ∃ p, rs[i]? = some p ∧ e = p.d := by
          cases hq : rs[i]? with
          | none => rw [hq] at he; cases he
          | some p => rw [hq] at he; exact ⟨p, rfl, (Option.some.inj he).symm⟩
        obtain ⟨hx1, hx2⟩ := hI
        have hi : i < rs.length := (List.getElem?_eq_some_iff.mp hp).1
        have hee : es[i]? = some (es.getD i 0) := by rw [getD_lt (by omega), List.getElem?_eq_getElem (by omega)]
        have helt : es.getD i 0 < m := by
          have := es_lt hes' hi
          omega
        have hix : atI (nD es) ((i : Nat) : Int) = some (.int (es.getD i 0 : Nat)) := atI_nat (nD_get hee)
        have fin : ∀ (H6 : Hp) (s5 : L2.St) (l' : List Sl), Weak l' [.dat sc, .town t (nn + 2 * m), .dat (.int m), .dat (.list (rs.map Pl.d)), .no, .no, .dat (.list (nD es)), .own o2 (x.set (es.getD i 0) (ren es p).d), .no, .no, .no] → At (Cn.at_ ⟨K, Dz.mt t, S, H, S⟩ S1) l' s5 H6 →
            ∃ y : List PyData, (y.length = m ∧ ∀ (j : Nat) (p : Pl) (e : Nat), j < i + 1 → rs[j]? = some p → es[j]? = some e → y[e]? = some (ren es p).d) ∧ At (Cn.at_ ⟨K, Dz.mt t, S, H, S⟩ S1) [.dat sc, .town t (nn + 2 * m), .dat (.int m), .dat (.list (rs.map Pl.d)), .no, .no, .dat (.list (nD es)), .own o2 y, .no, .no, .no] s5 H6 := by
          intro H6 s5 l' hw hA
          refine ⟨_, ⟨by rw [List.length_set]; exact hx1, fun j p' e hj hp' he' => ?_⟩, hA.weak hw⟩
          by_cases hji : j = i
          · subst hji
            rw [hp] at hp'
            rw [hee] at he'
            cases hp'
            cases he'
            rw [List.getElem?_set_self (by omega)]
          · have hne : es.getD i 0 ≠ e := fun z => by
              have e1 := es_of hes' hi
              have hjl : j < es.length := (List.getElem?_eq_some_iff.mp he').1
              have e2 := es_of hes' (show j < rs.length by omega)
              rw [getD_lt hjl] at e2
              have e3 : es[j] = e := by rw [List.getElem?_eq_getElem hjl] at he'; exact Option.some.inj he'
              rw [z] at e1
              rw [e3, e1] at e2
              exact hji e2.symm
            rw [List.getElem?_set_ne hne]
            exact hx2 j p' e (by omega) hp' he'
        cases p with
        | fin w =>
          refine ⟨_, bd_tup (bds_cons bd_name (bds_cons (bd_tup (bds_cons bd_name (bds_cons bd_name bds_nil)) rfl) bds_nil)) rfl, fun t' n' h => by simpa using h, fun s5 H5 A6 => ?_⟩
          refine d_setL (i := 7) (j := es.getD i 0) A6 rfl (ev_is (ev_if (b := .none) (by
            apply et_test
            apply ev_op
            · exact ev_var rfl
            · exact ev_str
            · exact rd_eqA rd_eqS) (fun _ => by walk_at "ev") (fun h => by simp at h)) (by simp; rfl)) (ev_op (ev_var rfl) (ev_var rfl) (rd_ixL hix)) (by omega) fun H6 A7 => ?_
          exact fin H6 s5 _ (.same (.same (.same (.same (.no (.no (.same (.same (.no (.no (.no .nil))))))))))) A7
        | mv sd ms =>
          obtain ⟨q1, q2, q3, q4, q5⟩ := hok i _ hp
          refine ⟨_, bd_tup (bds_cons bd_name (bds_cons (bd_tup (bds_cons bd_name (bds_cons bd_name bds_nil)) rfl) bds_nil)) rfl, fun t' n' h => by simpa using h, fun s5 H5 A6 => ?_⟩
          refine d_setL (d := (ren es (.mv sd ms)).d) (i := 7) (j := es.getD i 0) A6 rfl (ev_is (ev_if (a := .none) (by walk_at "et") (fun h => by simp at h) (fun _ => ev_tup (ea_cons (ev_var rfl) (ea_cons (ev_cb (ea_cons (ev_lcA (xs := ms) (h := fun m => .int (m : Nat)) (f := fun m => .int (es.getD m 0 : Nat)) (ei_tup (ev_var rfl)) (gin_name (by decide)) gmono_name (fun y _ => bd_name) (fun y hy => ev_op (ev_var rfl) (ev_var rfl) (rd_ixL (atI_nat (nD_get ?_)))) (by omega)) ea_nil) rc_tupleL) ea_nil)) (by simp))) ?_) (ev_op (ev_var rfl) (ev_var rfl) (rd_ixL hix)) (by omega) fun H6 A7 => ?_
          · have := q4 y hy
            rw [getD_lt (by omega), List.getElem?_eq_getElem (by omega)]
          · show PyData.tuple _ = PyData.tuple [.int sd, .tuple (nD (ms.map fun m => es.getD m 0))]
            unfold nD
            rw [List.map_map]
            rfl
          · exact fin H6 s5 _ (.same (.same (.same (.same (.no (.no (.same (.same (.no (.no (.no .nil))))))))))) A7
      · rw [enumD_len, List.length_map] at hI
        obtain ⟨hx1, hx2⟩ := hI
        have ex := renG_is hes' (by omega) hx2
        walk_at "go"
        refine dx_ret (it := 1) A6 rfl (ex_ev (ev_tupleO rfl)) fun v S' H' d n' r g t1 d1 => ?_
        obtain ⟨rfl, rfl⟩ := r
        rw [ex] at d1
        exact q v S' H' _ _ ⟨m, renG es rs, rfl, rfl, by rw [renG_len]; exact hl, renG_good hes' hok (by omega), renG_straight hes' hok, rfl⟩ g (t1.le (by omega) (by omega)) d1

/-! ### the same: asked of like data alone -/
abbrev s_l_same : Stmt := top 6
theorem sc_l_same : FnScope ["_law_got", "_law_due", "_law_one", "_law_other"] ["_law_got", "_law_due"] (defScope s_l_same) := ⟨rfl, rfl, rfl, by decide +kernel, rfl, by decide +kernel, by decide +kernel⟩
def plainN : Nat → PyData → Bool
  | 0, _ => false
  | k + 1, .tuple ds => decide (ds.length ≤ 10000) && ds.all (plainN k)
  | _ + 1, .none => true
  | _ + 1, .bool _ => true
  | _ + 1, .int _ => true
  | _ + 1, .str _ => true
  | _ + 1, _ => false
def sameR (k : Nat) (ds : List PyData) (d : PyData) : Prop := ∃ a, ds = [a, a] ∧ plainN k a = true ∧ d = .bool true
theorem kb : kitB "bool" "bool" = some true := by decide +kernel
theorem kt : kitB "tuple" "tuple" = some true := by decide +kernel
theorem ks : kitB "str" "str" = some true := by decide +kernel
theorem ki : kitB "int" "int" = some true := by decide +kernel
theorem kib : kitB "int" "bool" = some false := by decide +kernel
theorem kit' : kitB "int" "tuple" = some false := by decide +kernel
theorem kis : kitB "int" "str" = some false := by decide +kernel
theorem ktb : kitB "tuple" "bool" = some false := by decide +kernel
theorem ksb : kitB "str" "bool" = some false := by decide +kernel
theorem kst : kitB "str" "tuple" = some false := by decide +kernel
theorem zip_same {l : List Sl} {wi : TI} (es : List PyData) (h : EvI K wi l (zipD es es)) : EvI K wi l (es.map fun e => .tuple [e, e]) := by
  have e : zipD es es = es.map fun e => PyData.tuple [e, e] := by
    unfold zipD
    induction es with
    | nil => rfl
    | cons x r ih => simp
  rw [← e]
  exact h
theorem rc_allT (es : List PyData) : RCD K (rAll K) [.list (es.map fun _ => .bool true)] (.bool true) := by
  have h := rc_all (K := K) (bs := es.map fun _ => true)
  rw [List.map_map] at h
  have e : (es.map fun _ => true).all id = true := by simp
  rw [e] at h
  exact h
theorem ok_same {f : Addr} {fd : FuncData} {k : Nat} (F : Fun K "_law_same" "_law_same" s_l_same f fd) (B : Bn mg) (c_l_same : Cal P w K mg base k "_law_same" ["_law_got", "_law_due"] (spR K (sameR k))) :
    FnOk P w K mg base CX0 (k + 1) f fd ["_law_got", "_law_due"] (spR K (sameR (k + 1))) := by
  refine F.ok sc_l_same (fun vs H Q E h => ?_) (fun cdv A outer s H vs Q E hr h => ?_)
  · obtain ⟨S, ds, d, _, hd, ⟨a, rfl, _⟩, _⟩ := h
    exact DpAll_len hd
  · obtain ⟨S, ds, d, hS, hd, ⟨a, rfl, hp, rfl⟩, q⟩ := h
    cases hd with
    | cons hd1 hd2 =>
    cases hd2 with
    | cons hd2 hd3 =>
    cases hd3
    refine ⟨_,
      (pss_cons (ps_if (pt_cmp (pc_isN (pv 1)))
          (pss_one (ps_ret (pe_cmp (pc_isN (pv 0)) rfl)))
          pss_nil)
        (pss_cons (ps_if (k_tru K (pe_callB (k_isi K) (by rfl) B.isinstance (by decide +kernel) (pa_cons (pv 1) (pa_cons (pe_bltn (v := .ty "bool") (by rfl) B.bool (by decide +kernel) rfl) pa_nil))) (by intro _; rfl))
          (pss_one (ps_ret (pe_and (pe_callB (k_isi K) (by rfl) B.isinstance (by decide +kernel) (pa_cons (pv 0) (pa_cons (pe_bltn (v := .ty "bool") (by rfl) B.bool (by decide +kernel) rfl) pa_nil))) (pe_one (pe_cmpR (k_eq K hr.units) (pv 0) (pv 1) (nomark _))))))
          pss_nil)
        (pss_cons (ps_if (k_tru K (pe_callB (k_isi K) (by rfl) B.isinstance (by decide +kernel) (pa_cons (pv 1) (pa_cons (pe_bltn (v := .ty "tuple") (by rfl) B.tuple (by decide +kernel) rfl) pa_nil))) (by intro _; rfl))
          (pss_cons (ps_if (PW.pt (pw_or (pt_not (k_tru K (pe_callB (k_isi K) (by rfl) B.isinstance (by decide +kernel) (pa_cons (pv 0) (pa_cons (pe_bltn (v := .ty "tuple") (by rfl) B.tuple (by decide +kernel) rfl) pa_nil))) (by intro _; rfl))) (pw_or1 (pt_cmpR (k_ne K hr.units) (pe_callB (k_len K) (by rfl) B.len (by decide +kernel) (pa_cons (pv 0) pa_nil)) (pe_callB (k_len K) (by rfl) B.len (by decide +kernel) (pa_cons (pv 1) pa_nil)) (nomark _)))))
            (pss_one (ps_ret pe_bl))
            pss_nil)
          (pss_one (ps_ret (pe_callB (k_all K rfl) (by rfl) B.all (by decide +kernel) (pa_cons (pe_lc (own := [("_law_one", 2), ("_law_other", 3)]) (by rfl) sc_l_same.nd (pi_zipA (by rfl) B.zip (pa_cons (pv 0) (pa_cons (pv 1) pa_nil))) (blkOk_by (own := [("_law_one", 2), ("_law_other", 3)]) (N := ["_law_got", "_law_due", "_law_one", "_law_other"]) (sc := defScope s_l_same) (by decide +kernel)) (fun _ _ _ _ _ => (k_tup (n := 2) K rfl (pgs_cons (pg_name (i := 2) sc_l_same.nd rfl (by first | exact Or.inl rfl | exact Or.inr rfl)) (pgs_cons (pg_name (i := 3) sc_l_same.nd rfl (by first | exact Or.inl rfl | exact Or.inr rfl)) pgs_nil)))) (fun _ _ _ _ _ => pts_nil) (fun _ _ _ _ _ => (pe_cal c_l_same hr (pa_cons (pv 2) (pa_cons (pv 3) pa_nil))))) pa_nil)))))
          pss_nil)
        (pss_cons (ps_if (k_tru K (pe_callB (k_isi K) (by rfl) B.isinstance (by decide +kernel) (pa_cons (pv 1) (pa_cons (pe_bltn (v := .ty "str") (by rfl) B.str (by decide +kernel) rfl) pa_nil))) (by intro _; rfl))
          (pss_one (ps_ret (pe_and (pe_callB (k_isi K) (by rfl) B.isinstance (by decide +kernel) (pa_cons (pv 0) (pa_cons (pe_bltn (v := .ty "str") (by rfl) B.str (by decide +kernel) rfl) pa_nil))) (pe_one (pe_cmpR (k_eq K hr.units) (pv 0) (pv 1) (nomark _))))))
          pss_nil)
        (pss_one (ps_ret (pe_and (pe_callB (k_isi K) (by rfl) B.isinstance (by decide +kernel) (pa_cons (pv 0) (pa_cons (pe_bltn (v := .ty "int") (by rfl) B.int (by decide +kernel) rfl) pa_nil))) (pe_and (k_notT K (pe_callB (k_isi K) (by rfl) B.isinstance (by decide +kernel) (pa_cons (pv 0) (pa_cons (pe_bltn (v := .ty "bool") (by rfl) B.bool (by decide +kernel) rfl) pa_nil)))) (pe_one (pe_cmpR (k_eq K hr.units) (pv 0) (pv 1) (nomark _)))))))))))
      , ?_⟩
    try simp only [cxK]
    have A0 : At ⟨K, m0, S, H, S⟩ [.dat a, .dat a, .no, .no] (start ["_law_got", "_law_due", "_law_one", "_law_other"] [_, _]) H :=
      ⟨⟨S, Grow.refl hS, env_dat hd1 (env_dat hd2 (env_no (env_no env_nil))), Same.refl S⟩, fun t' n' hm => by simp at hm⟩
    have noStr : ∀ (b : Bool) y, PyData.bool b = .str y → y.length ≤ 100000 := fun b y z => nomatch z
    walk_at "go"
    cases a with
    | none =>
      refine d_if A0 (by walk_at "et") (fun _ H1 A1 => ?_) (fun z => (by cases z))
      exact d_ret A1 (by exact ev_is (ev_isN (ev_var rfl)) rfl) q
    | list es => cases hp
    | dict es => cases hp
    | bool b =>
      refine d_if A0 (by walk_at "et") (fun z => (by cases z)) (fun _ H1 A1 => ?_)
      walk_at "go"
      refine d_if A1 (by exact et_truth (ev_isi (ev_var rfl) kb) (noStr _)) (fun _ H2 A2 => ?_) (fun z => (by cases z))
      exact d_ret A2 (by exact ev_is (ev_andV (ev_isi (ev_var rfl) kb) (fun _ => by walk_at "ev")) (by simp)) q
    | int i =>
      refine d_if A0 (by walk_at "et") (fun z => (by cases z)) (fun _ H1 A1 => ?_)
      walk_at "go"
      refine d_if A1 (by exact et_truth (ev_isi (ev_var rfl) kib) (noStr _)) (fun z => (by cases z)) (fun _ H2 A2 => ?_)
      walk_at "go"
      refine d_if A2 (by exact et_truth (ev_isi (ev_var rfl) kit') (noStr _)) (fun z => (by cases z)) (fun _ H3 A3 => ?_)
      walk_at "go"
      refine d_if A3 (by exact et_truth (ev_isi (ev_var rfl) kis) (noStr _)) (fun z => (by cases z)) (fun _ H4 A4 => ?_)
      walk_at "go"
      exact d_ret A4 (by exact ev_is (ev_andV (ev_isi (ev_var rfl) ki) (fun _ => ev_andV (ev_notT (ev_isi (ev_var rfl) kib) (noStr _)) (fun _ => by walk_at "ev"))) (by simp [truD])) q
    | str x =>
      refine d_if A0 (by walk_at "et") (fun z => (by cases z)) (fun _ H1 A1 => ?_)
      walk_at "go"
      refine d_if A1 (by exact et_truth (ev_isi (ev_var rfl) ksb) (noStr _)) (fun z => (by cases z)) (fun _ H2 A2 => ?_)
      walk_at "go"
      refine d_if A2 (by exact et_truth (ev_isi (ev_var rfl) kst) (noStr _)) (fun z => (by cases z)) (fun _ H3 A3 => ?_)
      walk_at "go"
      refine d_if A3 (by exact et_truth (ev_isi (ev_var rfl) ks) (noStr _)) (fun _ H4 A4 => ?_) (fun z => (by cases z))
      exact d_ret A4 (by exact ev_is (ev_andV (ev_isi (ev_var rfl) ks) (fun _ => by walk_at "ev")) (by simp)) q
    | tuple es =>
      refine d_if A0 (by walk_at "et") (fun z => (by cases z)) (fun _ H1 A1 => ?_)
      walk_at "go"
      refine d_if A1 (by exact et_truth (ev_isi (ev_var rfl) ktb) (noStr _)) (fun z => (by cases z)) (fun _ H2 A2 => ?_)
      walk_at "go"
      refine d_if A2 (by exact et_truth (ev_isi (ev_var rfl) kt) (noStr _)) (fun _ H3 A3 => ?_) (fun z => (by cases z))
      walk_at "go"
      refine d_if A3 (by exact et_is (et_or (et_not (et_truth (ev_isi (ev_var rfl) kt) (noStr _))) (fun _ => by walk_at "et")) (show _ = false by simp [truD])) (fun z => (by cases z)) (fun _ H4 A4 => ?_)
      walk_at "go"
      have hp' : (decide (es.length ≤ 10000) && es.all (plainN k)) = true := hp
      rw [Bool.and_eq_true] at hp'
      have hall := hp'.2
      have hlen := of_decide_eq_true hp'.1
      refine d_ret A4 (by exact ev_is (ev_cb (ea_cons (ev_lcA (xs := es) (h := fun e => .tuple [e, e]) (f := fun _ => .bool true) (zip_same es (ei_zipT (ev_var rfl) (ev_var rfl))) (gin_tup (gins_cons (gin_name (by decide)) (gins_cons (gin_name (by decide)) gins_nil gmono_name) gmono_name)) (gmono_tup (gmonos_cons gmono_name (gmonos_cons gmono_name gmonos_nil))) (fun y _ => bd_tup (bds_cons bd_name (bds_cons bd_name bds_nil)) rfl) (fun y hy => ev_r (ea_cons (ev_var rfl) (ea_cons (ev_var rfl) ea_nil)) ⟨y, rfl, List.all_eq_true.mp hall y hy, rfl⟩) (by omega)) ea_nil) (rc_allT es)) rfl) q

/-! ### a place: its side, and the rest of it -/
def oD : Option Nat → PyData
  | none => .none
  | some m => .int (m : Nat)
def Pl.side : Pl → PyData
  | .fin _ => .str "end"
  | .mv s _ => .int s
def Pl.more : Pl → PyData
  | .fin w => .int w
  | .mv _ ms => .tuple (nD ms)
theorem Pl.d_eq (x : Pl) : x.d = .tuple [x.side, x.more] := by cases x <;> rfl
def Pl.isEnd : Pl → Bool
  | .fin _ => true
  | .mv _ _ => false
theorem side_end (x : Pl) : RD K (rEqA K) x.side (.str "end") (.bool x.isEnd) := by
  cases x with
  | fin w =>
    have h : RD K (rEqA K) (.str "end") (.str "end") (.bool (decide (("end" : Str) = "end"))) := rd_eqA rd_eqS
    rwa [decide_eq_true rfl] at h
  | mv s ms => exact rd_eqA rd_eqIS
theorem side_nend (x : Pl) : RD K (rNeA K) x.side (.str "end") (.bool (!x.isEnd)) := by
  cases x with
  | fin w =>
    have h : RD K (rNeA K) (.str "end") (.str "end") (.bool (!decide (("end" : Str) = "end"))) := rd_neA rd_neS
    rwa [decide_eq_true rfl] at h
  | mv s ms => exact rd_neA rd_neIS
theorem ev_m1 {l : List Sl} : Ev K (tUn (rU fun i => .int (-i)) (tC (.int 1))) l (.int (-1)) := ev_un ev_int (rud_U fun _ => .int _)

/-! ### shallow looks, plainly -/
def chI (s : Int) (xs : List Int) : Int := if s = 0 then maxI xs else minI xs
def iT (gs : List Int) : PyData := .tuple (gs.map .int)
def bT (cs : List Bool) : PyData := .tuple (cs.map .bool)
def shal (g : List Pl) (gs : List Int) : Nat → Nat → Int
  | 0, p => match g[p]? with | some (.fin w) => w | _ => gs.getD p 0
  | n + 1, p => match g[p]? with | some (.fin w) => w | some (.mv s ms) => chI s (ms.map (shal g gs n)) | none => 0
def rest0 (g : List Pl) (gs : List Int) (cs : List Bool) : Nat → Nat → Int
  | 0, p => match g[p]? with | some (.fin w) => w | _ => gs.getD p 0
  | n + 1, p => match g[p]? with | some (.fin w) => w | some (.mv s ms) => if cs.getD p false then gs.getD p 0 else chI s (ms.map (rest0 g gs cs n)) | none => 0
def restI (g : List Pl) (gs : List Int) (cs : List Bool) (on : Nat) : Nat → Nat → Int
  | 0, p => rest0 g gs cs on p
  | n + 1, p => match g[p]? with | some (.fin w) => w | some (.mv s ms) => chI s (ms.map (restI g gs cs on n)) | none => 0
theorem shal_fin {g : List Pl} {gs : List Int} {p : Nat} {w : Int} (h : g[p]? = some (.fin w)) : ∀ n, shal g gs n p = w
  | 0 => by unfold shal; rw [h]
  | _ + 1 => by unfold shal; rw [h]
theorem shal_zero {g : List Pl} {gs : List Int} {p : Nat} {s : Int} {ms : List Nat} (h : g[p]? = some (.mv s ms)) : shal g gs 0 p = gs.getD p 0 := by unfold shal; rw [h]
theorem shal_succ {g : List Pl} {gs : List Int} {p n : Nat} {s : Int} {ms : List Nat} (h : g[p]? = some (.mv s ms)) : shal g gs (n + 1) p = chI s (ms.map (shal g gs n)) := by rw [shal, h]
theorem rest_fin {g : List Pl} {gs : List Int} {cs : List Bool} {p : Nat} {w : Int} {on : Nat} (h : g[p]? = some (.fin w)) : ∀ n, restI g gs cs on n p = w
  | 0 => by
    unfold restI
    cases on with
    | zero => unfold rest0; rw [h]
    | succ k => unfold rest0; rw [h]
  | _ + 1 => by unfold restI; rw [h]
theorem rest_z {g : List Pl} {gs : List Int} {cs : List Bool} {p : Nat} {s : Int} {ms : List Nat} {on : Nat} (h : g[p]? = some (.mv s ms)) (hc : cs.getD p false = true ∨ on = 0) : restI g gs cs on 0 p = gs.getD p 0 := by
  unfold restI
  cases on with
  | zero => unfold rest0; rw [h]
  | succ k =>
    rw [rest0, h]
    rcases hc with hc | hc
    · show (if cs.getD p false = true then _ else _) = _
      rw [if_pos hc]
    · cases hc
theorem rest_on {g : List Pl} {gs : List Int} {cs : List Bool} {p : Nat} {s : Int} {ms : List Nat} {on : Nat} (h : g[p]? = some (.mv s ms)) (hc : cs.getD p false = false) : restI g gs cs (on + 1) 0 p = chI s (ms.map (restI g gs cs on 0)) := by
  show rest0 g gs cs (on + 1) p = _
  rw [rest0, h]
  show (if cs.getD p false = true then _ else _) = _
  rw [if_neg (by rw [hc]; decide)]
  rfl
theorem rest_succ {g : List Pl} {gs : List Int} {cs : List Bool} {p n on : Nat} {s : Int} {ms : List Nat} (h : g[p]? = some (.mv s ms)) : restI g gs cs on (n + 1) p = chI s (ms.map (restI g gs cs on n)) := by rw [restI, h]
theorem rest_shal (g : List Pl) (gs : List Int) (cs : List Bool) : ∀ n p, restI g gs cs 0 n p = shal g gs n p
  | 0, p => by unfold restI rest0 shal; rfl
  | n + 1, p => by
    rw [restI, shal]
    have e : restI g gs cs 0 n = shal g gs n := funext fun q => rest_shal g gs cs n q
    rw [e]
theorem at_nat {α : Type} {h : α → PyData} {xs : List α} {p : Nat} {x : α} (e : xs[p]? = some x) : atI (xs.map h) (p : Int) = some (h x) := atI_nat (by rw [List.getElem?_map, e]; rfl)
theorem at_last {ds : List PyData} {d : PyData} (e : ds[ds.length - 1]? = some d) (h : ds ≠ []) : atI ds (-1) = some d := by
  have hl : 0 < ds.length := List.length_pos_iff.mpr h
  have e2 : ixN ds.length (-1) = some (ds.length - 1) := by
    unfold ixN
    rw [if_neg (by omega), if_pos (by omega)]
    congr 1
    omega
  show ((ixN ds.length (-1)).bind fun j => ds[j]?) = some d
  rw [e2]
  exact e
theorem at_get {xs : List Int} {p : Nat} (h : p < xs.length) : xs[p]? = some (xs.getD p 0) := by rw [getD_lt h, List.getElem?_eq_getElem h]
theorem at_getB {xs : List Bool} {p : Nat} (h : p < xs.length) : xs[p]? = some (xs.getD p false) := by rw [getD_lt h, List.getElem?_eq_getElem h]
/-- the greatest of a row for side 0, the least for side 1: of a row put in order -/
theorem sort_ch {ns : List Int} (h : ns ≠ []) {s : Int} : atI ((sortI ns).map PyData.int) (if s = 0 then -1 else 0) = some (.int (chI s ns)) := by
  have hne : (sortI ns).map PyData.int ≠ [] := fun z => h (by
    have := congrArg List.length z
    rw [List.length_map, sortI_len] at this
    exact List.length_eq_zero_iff.mp this)
  unfold chI
  by_cases hs : s = 0
  · rw [if_pos hs, if_pos hs]
    refine at_last ?_ hne
    rw [List.length_map, sortI_len, List.getElem?_map, sortI_last h]
    rfl
  · rw [if_neg hs, if_neg hs]
    exact atI_nat (j := 0) (by rw [List.getElem?_map, sortI_first h]; rfl)

/-! ### what is told of a place by those to which it moves -/
def fixS {α : Type} (d : α) (F : (Nat → α) → Pl → α) (g : List Pl) : Nat → Nat → α
  | 0, _ => d
  | k + 1, p => match g[p]? with | some x => F (fixS d F g k) x | none => d
def valS {α : Type} (d : α) (F : (Nat → α) → Pl → α) (g : List Pl) (p : Nat) : α := fixS d F g g.length p
structure Rk (g : List Pl) (rk : Nat → Nat) : Prop where
  dn : ∀ (p : Nat) (x : Pl) (m : Nat), g[p]? = some x → m ∈ x.moves → rk m < rk p
  lt : ∀ p, p < g.length → rk p < g.length
theorem Straight.rk {g : List Pl} (h : Straight g) : ∃ rk, Rk g rk := by
  obtain ⟨rk, h1, h2⟩ := h.ex
  exact ⟨rk, h1, h2⟩
/-- what F tells rests on the moves alone -/
def Loc1 {α : Type} (F : (Nat → α) → Pl → α) : Prop := ∀ f f' x, (∀ m ∈ x.moves, f m = f' m) → F f x = F f' x
theorem fix_stable {α : Type} {d : α} {F : (Nat → α) → Pl → α} {g : List Pl} {rk : Nat → Nat} (hF : Loc1 F) (h : Rk g rk) : ∀ (k k' p : Nat), rk p < k → rk p < k' → fixS d F g k p = fixS d F g k' p
  | 0, _, _, h1, _ => absurd h1 (Nat.not_lt_zero _)
  | _ + 1, 0, _, _, h2 => absurd h2 (Nat.not_lt_zero _)
  | k + 1, k' + 1, p, h1, h2 => by
    rw [fixS, fixS]
    cases e : g[p]? with
    | none => rfl
    | some x =>
      refine hF _ _ x fun m hm => ?_
      have := h.dn p x m e hm
      exact fix_stable hF h k k' m (by omega) (by omega)
theorem val_eq {α : Type} {d : α} {F : (Nat → α) → Pl → α} {g : List Pl} {rk : Nat → Nat} (hF : Loc1 F) (h : Rk g rk) {p : Nat} {x : Pl} (e : g[p]? = some x) : valS d F g p = F (valS d F g) x := by
  have hp : p < g.length := (List.getElem?_eq_some_iff.mp e).1
  have hr := h.lt p hp
  have h1 : valS d F g p = fixS d F g (g.length + 1) p := fix_stable hF h _ _ p hr (by omega)
  rw [h1, fixS, e]
  rfl
/-- the worth of a place -/
def wF (f : Nat → Int) : Pl → Int
  | .fin w => w
  | .mv s ms => chI s (ms.map f)
def wor (g : List Pl) (p : Nat) : Int := valS 0 wF g p
theorem wF_loc : Loc1 wF := fun f f' x h => by
  cases x with
  | fin w => rfl
  | mv s ms =>
    have e : ms.map f = ms.map f' := List.map_congr_left h
    show chI s (ms.map f) = chI s (ms.map f')
    rw [e]
theorem wor_fin {g : List Pl} {rk : Nat → Nat} (h : Rk g rk) {p : Nat} {w : Int} (e : g[p]? = some (.fin w)) : wor g p = w := val_eq wF_loc h e
theorem wor_mv {g : List Pl} {rk : Nat → Nat} (h : Rk g rk) {p : Nat} {s : Int} {ms : List Nat} (e : g[p]? = some (.mv s ms)) : wor g p = chI s (ms.map (wor g)) := val_eq wF_loc h e

/-! ### windows, plainly -/
def wCut (s lo hi : Int) : Option Int → Bool
  | none => false
  | some x => if s = 0 then decide (hi ≤ x) else decide (x ≤ lo)
def wLo (s lo : Int) : Option Int → Int
  | none => lo
  | some x => if s = 0 then max lo x else lo
def wHi (s hi : Int) : Option Int → Int
  | none => hi
  | some x => if s = 0 then hi else min hi x
def wUp (s : Int) (t : Option Int) (a : Int) : Int := match t with
  | none => a
  | some x => if s = 0 then max x a else min x a
def lk (f : Nat → Int → Int → Int × Nat) (s lo hi : Int) : List Nat → Option Int → Nat → Option Int × Nat
  | [], t, e => (t, e)
  | m :: r, t, e => if wCut s lo hi t then (t, e) else lk f s lo hi r (some (wUp s t (f m (wLo s lo t) (wHi s hi t)).1)) (e + (f m (wLo s lo t) (wHi s hi t)).2)
theorem lk_cut {f : Nat → Int → Int → Int × Nat} {s lo hi : Int} {t : Option Int} (h : wCut s lo hi t = true) : ∀ (ms : List Nat) (e : Nat), lk f s lo hi ms t e = (t, e)
  | [], _ => rfl
  | m :: r, e => by rw [lk, if_pos h]
theorem lk_go {f : Nat → Int → Int → Int × Nat} {s lo hi : Int} {t : Option Int} (h : wCut s lo hi t = false) (m : Nat) (r : List Nat) (e : Nat) :
    lk f s lo hi (m :: r) t e = lk f s lo hi r (some (wUp s t (f m (wLo s lo t) (wHi s hi t)).1)) (e + (f m (wLo s lo t) (wHi s hi t)).2) := by rw [lk, if_neg (by rw [h]; decide)]
theorem lk_congr {f f' : Nat → Int → Int → Int × Nat} {s lo hi : Int} : ∀ (ms : List Nat) (t : Option Int) (e : Nat), (∀ m ∈ ms, f m = f' m) → lk f s lo hi ms t e = lk f' s lo hi ms t e
  | [], _, _, _ => rfl
  | m :: r, t, e, h => by
    rw [lk, lk, h m List.mem_cons_self]
    split
    · rfl
    · exact lk_congr r _ _ fun m hm => h m (List.mem_cons_of_mem _ hm)
def lkF (f : Nat → Int → Int → Int × Nat) : Pl → Int → Int → Int × Nat
  | .fin w, _, _ => (w, 1)
  | .mv s ms, lo, hi => ((lk f s lo hi ms none 0).1.getD 0, (lk f s lo hi ms none 0).2)
def look (g : List Pl) (p : Nat) : Int → Int → Int × Nat := valS (fun _ _ => (0, 0)) lkF g p
theorem lkF_loc : Loc1 lkF := fun f f' x h => by
  cases x with
  | fin w => rfl
  | mv s ms =>
    funext lo hi
    show ((lk f s lo hi ms none 0).1.getD 0, (lk f s lo hi ms none 0).2) = ((lk f' s lo hi ms none 0).1.getD 0, (lk f' s lo hi ms none 0).2)
    rw [lk_congr ms none 0 h]
theorem look_fin {g : List Pl} {rk : Nat → Nat} (h : Rk g rk) {p : Nat} {w : Int} (e : g[p]? = some (.fin w)) (lo hi : Int) : look g p lo hi = (w, 1) := congrFun (congrFun (val_eq lkF_loc h e) lo) hi
theorem look_mv {g : List Pl} {rk : Nat → Nat} (h : Rk g rk) {p : Nat} {s : Int} {ms : List Nat} (e : g[p]? = some (.mv s ms)) (lo hi : Int) : look g p lo hi = ((lk (look g) s lo hi ms none 0).1.getD 0, (lk (look g) s lo hi ms none 0).2) := congrFun (congrFun (val_eq lkF_loc h e) lo) hi
/-- behind one move something is told -/
theorem lk_some {f : Nat → Int → Int → Int × Nat} {s lo hi : Int} : ∀ (ms : List Nat) (x : Int) (e : Nat), ∃ y, (lk f s lo hi ms (some x) e).1 = some y
  | [], x, _ => ⟨x, rfl⟩
  | m :: r, x, e => by
    rw [lk]
    split
    · exact ⟨x, rfl⟩
    · exact lk_some r _ _
def oI : Option Int → PyData
  | none => .none
  | some x => .int x
def lkD (r : Int × Nat) : PyData := .tuple [.int r.1, .int (r.2 : Nat)]

/-! ### x += e -/
theorem d_aug {C : Cn} {l : List Sl} {s : L2.St} {H : Hp} {D : Ends} {te : TE} {i : Nat} {a b : Int} (h : At C l s H) (hi : l[i]? = some (.dat (.int a))) (he : Ev C.K te l (.int b)) (k : ∀ s' H', At C (l.set i (.dat (.int (a + b)))) s' H' → D.nx s' H') : tAug i te (ipI fun i j => i + j) D s H := by
  obtain ⟨S, g, e, b0⟩ := h.ex
  obtain ⟨v, hv, w, rfl, hd⟩ := e.ok i _ hi
  cases hd
  refine ⟨_, hv, he C.H0 S H s e g.f _ fun y S1 H1 g1 d1 => ?_⟩
  cases d1
  exact ⟨a, b, rfl, rfl, k _ _ ⟨⟨S1, g.trans g1.any, (e.grow g1).dat (.int _), b0.trans g1.s⟩, tw_set h.tw fun _ _ z => nomatch z⟩⟩
theorem ev_isNo {l : List Sl} {i : Nat} {t : Option Int} (h : l[i]? = some (.dat (oI t))) : EvT K (tB (tIsN (tVar i))) l t.isNone := by
  refine et_is (et_B (ev_isN (ev_var h))) ?_
  cases t <;> rfl
theorem ev_notNo {l : List Sl} {i : Nat} {t : Option Int} (h : l[i]? = some (.dat (oI t))) : EvT K (tB (tNotN (tVar i))) l t.isSome := by
  refine et_is (et_B (ev_notN (ev_var h))) ?_
  cases t <;> rfl
/-! ### a if c else b as a test -/
def tIfT (c a b : TT) : TT := fun σ H Q => c σ H fun k H1 => if k = true then a σ H1 Q else b σ H1 Q
theorem pt_ifE {X : Cx} {c a b : Expr} {tc ta tb : TT} {pos : Pos} (hc : PT X c tc) (ha : PT X a ta) (hb : PT X b tb) : PT X (.IfExp c a b pos) (tIfT tc ta tb) := by
  refine ⟨fun pins s σ H Q I h => ?_⟩
  rw [PySem.isTrue.eq_def]
  intro Γ p hΓ
  show Sem.wp _ Γ (Sem.bind _ _) _ _ p s
  rw [Sem.wp_bind]
  refine Sem.wp_mono _ Γ _ (fun k p' s' q => ?_) (fun _ _ _ q => q) p s (hc.run pins s σ H _ I h Γ p hΓ)
  obtain ⟨H', I', q⟩ := q
  cases k with
  | true => exact ha.run pins s' σ H' Q I' q Γ p' hΓ
  | false => exact hb.run pins s' σ H' Q I' q Γ p' hΓ
theorem et_ifT {l : List Sl} {tc ta tb : TT} {k i j : Bool} (hc : EvT K tc l k) (ha : k = true → EvT K ta l i) (hb : k = false → EvT K tb l j) : EvT K (tIfT tc ta tb) l (if k = true then i else j) := fun H0 S H s e hs Q q =>
  hc H0 S H s e hs _ fun S1 H1 g1 => by
    cases k with
    | true => exact ha rfl H0 S1 H1 s (e.grow g1) g1.f _ fun S2 H2 g2 => q S2 H2 (g1.trans g2)
    | false => exact hb rfl H0 S1 H1 s (e.grow g1) g1.f _ fun S2 H2 g2 => q S2 H2 (g1.trans g2)
/-- if c: x = e -/
theorem d_ifAsg {C : Cn} {l : List Sl} {s : L2.St} {H : Hp} {D : Ends} {t : TT} {te : TE} {i : Nat} {k : Bool} {d : PyData} (h : At C l s H) (ht : EvT C.K t l k) (he : k = true → Ev C.K te l d) (hn : k = false → l[i]? = some (.dat d)) (kk : ∀ s' H', At C (l.set i (.dat d)) s' H' → D.nx s' H') : tIfS t (tAsg te (gName i)) tNext D s H := by
  refine d_if h ht (fun z H' A => d_asg A (he z) kk) (fun z H' A => ?_)
  have e : l.set i (.dat d) = l := by
    have hq := hn z
    have hl := (List.getElem?_eq_some_iff.mp hq).1
    apply List.ext_getElem?
    intro j
    by_cases hj : i = j
    · subst hj
      rw [List.getElem?_set_self hl, hq]
    · rw [List.getElem?_set_ne hj]
  exact kk s H' (by rw [e]; exact A)
theorem sort2 {x a s : Int} (hs : s = 0 ∨ s = 1) : atI ((sortI [x, a]).map PyData.int) (1 - s) = some (.int (if s = 0 then max x a else min x a)) := by
  rcases hs with rfl | rfl
  · have h := sortI_last (ns := [x, a]) (by simp)
    exact atI_nat (j := 1) (by rw [List.getElem?_map, show (sortI [x, a])[1]? = some (maxI [x, a]) from h]; rfl)
  · have h := sortI_first (ns := [x, a]) (by simp)
    exact atI_nat (j := 0) (by rw [List.getElem?_map, h]; rfl)

/-! ### draws and askings, as the laws make them -/
section
variable {l : List Sl} {it i0 n : Nat} {t : Addr} {sc : PyData} {te : TE} {E : XK}
theorem ex_draw {m : Int} (hsc : Scr sc) (h0 : l[i0]? = some (.dat sc)) (h1 : l[it]? = some (.town t n)) (ha : Ev K te l (.int m)) (hm : 0 < m) (hn : n ≤ 90000) :
    EvX K (tCall (spT K drawPre drawRes) [] E (tCons (tVar i0) (tCons (tVar it) (tCons te tNil)))) l it t n (fun d n' => ∃ j : Nat, d = .int (j : Nat) ∧ (j : Int) < m ∧ n' = n + 2) :=
  xw_dr h0 h1 (xw_consE ha (xw_nil ⟨⟨hsc, ⟨m, rfl, hm⟩, hn⟩, fun d n' ⟨r, m', e, ed, r0, r1, en⟩ => by
    cases e
    subst ed
    obtain ⟨j, rfl⟩ := Int.eq_ofNat_of_zero_le r0
    exact ⟨j, rfl, r1, en⟩⟩))
end
theorem plain_tup {k : Nat} {ds : List PyData} (hl : ds.length ≤ 10000) (h : ∀ d ∈ ds, plainN k d = true) : plainN (k + 1) (.tuple ds) = true := by
  show (decide (ds.length ≤ 10000) && ds.all (plainN k)) = true
  rw [decide_eq_true hl, List.all_eq_true.mpr h]
  rfl
theorem plain_map {α : Type} {k : Nat} {f : α → PyData} {xs : List α} (hl : xs.length ≤ 10000) (h : ∀ x ∈ xs, plainN k (f x) = true) : plainN (k + 1) (.tuple (xs.map f)) = true := plain_tup (by rw [List.length_map]; exact hl) fun d hd => by
  obtain ⟨x, hx, rfl⟩ := List.mem_map.mp hd
  exact h x hx
section
variable {C : Cn} {l : List Sl} {s : L2.St} {H : Hp} {D : Ends} {ta tb : TE} {tu tv : TS} {d : PyData} {E : XK}
theorem d_same {k' : Nat} (h : At C l s H) (ha : Ev C.K ta l d) (hb : Ev C.K tb l d) (hp : plainN k' d = true) (k : ∀ H', At C l s H' → tv D s H') :
    tIfS (tNot (fun σ H Q => (tCall (spR C.K (sameR k')) [] E (tCons ta (tCons tb tNil))) σ H fun x H' => ∃ k, TruV C.K x H' k ∧ Q k H')) tu tv D s H :=
  d_if h (et_is (et_not (et_truth (ev_r (ea_cons ha (ea_cons hb ea_nil)) ⟨_, rfl, hp, rfl⟩) (fun y z => nomatch z))) (show (!true) = false from rfl)) (fun z => by cases z) (fun _ => k)
end
/-- a game of one to so many places -/
def eiPre (sc : PyData) (as : List PyData) (n : Nat) : Prop := strPre sc as n ∧ n ≤ 60000
def eiRes (as : List PyData) (n : Nat) (d : PyData) (n' : Nat) : Prop := ∃ (m : Nat) (g : List Pl), as = [.int m] ∧ d = gD g ∧ g.length = m ∧ Good g ∧ n' = n + 1002
theorem ex_eith {l : List Sl} {it i0 n : Nat} {t : Addr} {sc : PyData} {E E' : XK} {m : Int} (hsc : Scr sc) (h0 : l[i0]? = some (.dat sc)) (h1 : l[it]? = some (.town t n)) (hm : 0 < m ∧ m ≤ 12) (hn : n ≤ 50000) :
    EvX K (tCall (spT K eiPre eiRes) [] E (tCons (tVar i0) (tCons (tVar it) (tCons (tOp (rPlus K) (tC (.int 1)) (tCall (spT K drawPre drawRes) [] E' (tCons (tVar i0) (tCons (tVar it) (tCons (tC (.int m)) tNil))))) tNil)))) l it t n (fun d n' => ∃ g : List Pl, d = gD g ∧ Good g ∧ 1 ≤ g.length ∧ (g.length : Int) ≤ m ∧ n' = n + 1004) :=
  xw_dr h0 h1 (xw_cons (R1 := fun d n' => ∃ j : Nat, d = .int (j : Nat) ∧ 1 ≤ j ∧ (j : Int) ≤ m ∧ n' = n + 2) (xw_opL ev_int (ex_mono (ex_draw hsc h0 h1 ev_int hm.1 (by omega)) fun d n' ⟨j, e, hj, en⟩ => ⟨.int ((j + 1 : Nat) : Int), by rw [e, show ((j + 1 : Nat) : Int) = 1 + (j : Int) by omega]; exact rd_plusI, j + 1, rfl, by omega, by omega, en⟩)) fun a n1 ⟨j, e, j1, j2, en⟩ => xw_nil ⟨⟨⟨hsc, ⟨j, by rw [e], j1, by omega⟩, by omega⟩, by omega⟩, fun d n' ⟨m', g, e2, ed, hl, hg, en'⟩ => by
    subst e
    have : (j : Int) = m' := PyData.int.inj (List.cons.inj e2).1
    exact ⟨g, ed, hg, by omega, by omega, by omega⟩⟩)
theorem ex_strt {l : List Sl} {it i0 n : Nat} {t : Addr} {sc : PyData} {E E' : XK} {m : Int} (hsc : Scr sc) (h0 : l[i0]? = some (.dat sc)) (h1 : l[it]? = some (.town t n)) (hm : 0 < m ∧ m ≤ 12) (hn : n ≤ 50000) :
    EvX K (tCall (spT K strPre strRes) [] E (tCons (tVar i0) (tCons (tVar it) (tCons (tOp (rPlus K) (tC (.int 1)) (tCall (spT K drawPre drawRes) [] E' (tCons (tVar i0) (tCons (tVar it) (tCons (tC (.int m)) tNil))))) tNil)))) l it t n (fun d n' => ∃ g : List Pl, d = gD g ∧ Good g ∧ Straight g ∧ 1 ≤ g.length ∧ (g.length : Int) ≤ m ∧ n' = n + 1002) :=
  xw_dr h0 h1 (xw_cons (R1 := fun d n' => ∃ j : Nat, d = .int (j : Nat) ∧ 1 ≤ j ∧ (j : Int) ≤ m ∧ n' = n + 2) (xw_opL ev_int (ex_mono (ex_draw hsc h0 h1 ev_int hm.1 (by omega)) fun d n' ⟨j, e, hj, en⟩ => ⟨.int ((j + 1 : Nat) : Int), by rw [e, show ((j + 1 : Nat) : Int) = 1 + (j : Int) by omega]; exact rd_plusI, j + 1, rfl, by omega, by omega, en⟩)) fun a n1 ⟨j, e, j1, j2, en⟩ => xw_nil ⟨⟨hsc, ⟨j, by rw [e], j1, by omega⟩, by omega⟩, fun d n' ⟨m', g, e2, ed, hl, hg, hst, en'⟩ => by
    subst e
    have : (j : Int) = m' := PyData.int.inj (List.cons.inj e2).1
    exact ⟨g, ed, hg, hst, by omega, by omega, by omega⟩⟩)

/-! ### look, by the program and by hand -/
abbrev s_look : Stmt := top 3
theorem sc_look : FnScope ["game", "place", "low", "high", "side", "more", "told", "ends", "move", "here", "many"] ["game", "place", "low", "high"] (defScope s_look) := ⟨rfl, rfl, rfl, by decide +kernel, rfl, by decide +kernel, by decide +kernel⟩
def lookR (k : Nat) (ds : List PyData) (d : PyData) : Prop := ∃ (g : List Pl) (rk : Nat → Nat) (p : Nat) (lo hi : Int), ds = [gD g, .int p, .int lo, .int hi] ∧ Good g ∧ Rk g rk ∧ p < g.length ∧ rk p < k ∧ d = lkD (look g p lo hi)
theorem cut_prog {l : List Sl} {i j lo' hi' : Nat} {s lo hi x : Int} (hs : s = 0 ∨ s = 1) (h1 : l[i]? = some (.dat (.int s))) (h2 : l[j]? = some (.dat (.int x))) (h3 : l[lo']? = some (.dat (.int lo))) (h4 : l[hi']? = some (.dat (.int hi))) :
    EvT K (tOr (tAnd (tTest (tOp (rEqA K) (tVar i) (tC (.int 0)))) (tTest (tOp (rI0 fun i j => .bl (decide (i ≥ j))) (tVar j) (tVar hi')))) (tAnd (tTest (tOp (rEqA K) (tVar i) (tC (.int 1)))) (tTest (tOp (rI0 fun i j => .bl (decide (i ≤ j))) (tVar j) (tVar lo'))))) l (wCut s lo hi (some x)) := by
  refine et_is (et_or (et_and (et_test (ev_op (ev_var h1) ev_int (rd_eqA rd_eqI))) fun _ => et_test (ev_op (ev_var h2) (ev_var h4) (rd_I0 fun _ => .bl _))) fun _ => et_and (et_test (ev_op (ev_var h1) ev_int (rd_eqA rd_eqI))) fun _ => et_test (ev_op (ev_var h2) (ev_var h3) (rd_I0 fun _ => .bl _))) ?_
  rcases hs with rfl | rfl <;> simp [wCut]
theorem ok_look {f : Addr} {fd : FuncData} {k j : Nat} (F : Fun K "look" "look" s_look f fd) (B : Bn mg) (c_look : Cal P w K mg base k "look" ["game", "place", "low", "high"] (spR K (lookR j))) :
    FnOk P w K mg base CX0 (k + 1) f fd ["game", "place", "low", "high"] (spR K (lookR (j + 1))) := by
  refine F.ok sc_look (fun vs H Q E h => ?_) (fun cdv A outer s H vs Q E hr h => ?_)
  · obtain ⟨S, ds, d, _, hd, ⟨g, rk, p, lo, hi, rfl, _⟩, _⟩ := h
    exact DpAll_len hd
  · obtain ⟨S, ds, d, hS, hd, ⟨g, rk, p, lo, hi, rfl, hg, hrk, hp, hj, rfl⟩, q⟩ := h
    cases hd with
    | cons hd1 hd2 =>
    cases hd2 with
    | cons hd2 hd3 =>
    cases hd3 with
    | cons hd3 hd4 =>
    cases hd4 with
    | cons hd4 hd5 =>
    cases hd5
    refine ⟨_,
      (pss_cons (ps_asg (pe_ix (k_ix K) (pv 0) (pv 1) (fun _ _ => rfl)) (k_tup (n := 2) K rfl (pgs_cons (pg_name (i := 4) sc_look.nd rfl (by first | exact Or.inl rfl | exact Or.inr rfl)) (pgs_cons (pg_name (i := 5) sc_look.nd rfl (by first | exact Or.inl rfl | exact Or.inr rfl)) pgs_nil))))
        (pss_cons (ps_if (pt_cmpR (k_eq K hr.units) (pv 4) pe_str (nomark _))
          (pss_one (ps_ret (pe_tup (pa_cons (pv 5) (pa_cons pe_int pa_nil)))))
          pss_nil)
        (pss_cons (ps_asg (pe_tup (pa_cons pe_non (pa_cons pe_int pa_nil))) (k_tup (n := 2) K rfl (pgs_cons (pg_name (i := 6) sc_look.nd rfl (by first | exact Or.inl rfl | exact Or.inr rfl)) (pgs_cons (pg_name (i := 7) sc_look.nd rfl (by first | exact Or.inl rfl | exact Or.inr rfl)) pgs_nil))))
        (pss_cons (ps_for PassesOwn.never rfl (k_seq K (pv 5)) (pg_name (i := 8) sc_look.nd rfl (by first | exact Or.inl rfl | exact Or.inr rfl))
          (pss_cons (ps_if (pt_cmpR (k_eq K hr.units) (pv 4) pe_int (nomark _))
            (pss_cons (ps_asg (pe_cal c_look hr (pa_cons (pv 0) (pa_cons (pv 8) (pa_cons (pe_ifExp (pt_cmp (pc_isN (pv 6))) (pv 2) (pe_callB (call_max2 rfl) (by rfl) B.max (by decide +kernel) (pa_cons (pv 2) (pa_cons (pv 6) pa_nil)))) (pa_cons (pv 3) pa_nil))))) (k_tup (n := 2) K rfl (pgs_cons (pg_name (i := 9) sc_look.nd rfl (by first | exact Or.inl rfl | exact Or.inr rfl)) (pgs_cons (pg_name (i := 10) sc_look.nd rfl (by first | exact Or.inl rfl | exact Or.inr rfl)) pgs_nil))))
            (pss_one (ps_set (i := 6) sc_look.nd rfl (by first | exact Or.inl rfl | exact Or.inr rfl) (pe_ifExp (pt_cmp (pc_isN (pv 6))) (pv 9) (pe_callB (call_max2 rfl) (by rfl) B.max (by decide +kernel) (pa_cons (pv 6) (pa_cons (pv 9) pa_nil)))))))
            (pss_cons (ps_asg (pe_cal c_look hr (pa_cons (pv 0) (pa_cons (pv 8) (pa_cons (pv 2) (pa_cons (pe_ifExp (pt_cmp (pc_isN (pv 6))) (pv 3) (pe_callB (call_min2 rfl) (by rfl) B.min (by decide +kernel) (pa_cons (pv 3) (pa_cons (pv 6) pa_nil)))) pa_nil))))) (k_tup (n := 2) K rfl (pgs_cons (pg_name (i := 9) sc_look.nd rfl (by first | exact Or.inl rfl | exact Or.inr rfl)) (pgs_cons (pg_name (i := 10) sc_look.nd rfl (by first | exact Or.inl rfl | exact Or.inr rfl)) pgs_nil))))
            (pss_one (ps_set (i := 6) sc_look.nd rfl (by first | exact Or.inl rfl | exact Or.inr rfl) (pe_ifExp (pt_cmp (pc_isN (pv 6))) (pv 9) (pe_callB (call_min2 rfl) (by rfl) B.min (by decide +kernel) (pa_cons (pv 6) (pa_cons (pv 9) pa_nil))))))))
          (pss_cons (ps_aug (i := 7) sc_look.nd rfl (by first | exact Or.inl rfl | exact Or.inr rfl) (pv 10) ip_add)
          (pss_one (ps_if (PW.pt (pw_or (PW.pt (pw_and (pt_cmpR (k_eq K hr.units) (pv 4) pe_int (nomark _)) (pw_and1 (pt_cmpR op_ge (pv 6) (pv 3) (nomark _))))) (pw_or1 (PW.pt (pw_and (pt_cmpR (k_eq K hr.units) (pv 4) pe_int (nomark _)) (pw_and1 (pt_cmpR op_le (pv 6) (pv 2) (nomark _))))))))
            (pss_one ps_break)
            pss_nil)))))
        (pss_one (ps_ret (pe_tup (pa_cons (pv 6) (pa_cons (pv 7) pa_nil)))))))))
      , ?_⟩
    try simp only [cxK]
    have A0 : At ⟨K, m0, S, H, S⟩ [.dat (gD g), .dat (.int p), .dat (.int lo), .dat (.int hi), .no, .no, .no, .no, .no, .no, .no] (start ["game", "place", "low", "high", "side", "more", "told", "ends", "move", "here", "many"] [_, _, _, _]) H :=
      ⟨⟨S, Grow.refl hS, env_dat hd1 (env_dat hd2 (env_dat hd3 (env_dat hd4 (env_no (env_no (env_no (env_no (env_no (env_no (env_no env_nil)))))))))), Same.refl S⟩, fun t' n' hm => by simp at hm⟩
    walk_at "go"
    have hx : g[p]? = some g[p] := List.getElem?_eq_getElem hp
    generalize g[p] = x at hx
    refine d_asgB A0 (ev_op (ev_var rfl) (ev_var rfl) (rd_ixT (gD_at hx))) (by rw [Pl.d_eq]; exact bd_tup (bds_cons bd_name (bds_cons bd_name bds_nil)) rfl) (fun t' n' h => by simp at h) fun s1 H1 A1 => ?_
    walk_at "go"
    cases x with
    | fin w =>
      refine d_if A1 (by exact et_test (by walk_at "ev")) (fun _ H2 A2 => ?_) (fun z => by cases z)
      exact d_ret A2 (by exact ev_is (ev_tup (ea_cons (ev_var rfl) (by walk_at "ea")) (by simp)) (by rw [look_fin hrk hx]; rfl)) q
    | mv sd ms =>
      refine d_if A1 (by exact et_test (by walk_at "ev")) (fun z => by cases z) (fun _ H2 A2 => ?_)
      walk_at "go"
      obtain ⟨hsd, hne, _, hlt, hms⟩ := hg.ok p _ hx
      refine d_asgB A2 (ev_tup (by walk_at "ea") (by simp)) (bd_tup (bds_cons bd_name (bds_cons bd_name bds_nil)) rfl) (fun t' n' h => by simp at h) fun s3 H3 A3 => ?_
      simp only [List.set_cons_succ, List.set_cons_zero] at A3
      walk_at "go"
      have rest : ∀ (S2 : Hp) (t : Int) (e : Nat) (w8 w9 w10 : Sl) s4 H4, lk (look g) sd lo hi ms none 0 = (some t, e) → At (Cn.at_ ⟨K, m0, S, H, S⟩ S2) [.dat (gD g), .dat (.int p), .dat (.int lo), .dat (.int hi), .dat (.int sd), .dat (.tuple (nD ms)), .dat (.int t), .dat (.int (e : Nat)), w8, w9, w10] s4 H4 → tRet (tTup (tCons (tVar 6) (tCons (tVar 7) tNil))) { nx := fun x H' => Q V.non H', rt := Q } s4 H4 := fun S2 t e w8 w9 w10 s4 H4 he A4 =>
        d_ret A4 (by exact ev_is (ev_tup (ea_cons (ev_var rfl) (ea_cons (ev_var rfl) ea_nil)) (by simp)) (by rw [look_mv hrk hx, he]; rfl)) q
      refine d_for A3 (ei_tup (ev_var rfl)) (fun x : Option Int × Nat => [.dat (gD g), .dat (.int p), .dat (.int lo), .dat (.int hi), .dat (.int sd), .dat (.tuple (nD ms)), .dat (oI x.1), .dat (.int (x.2 : Nat)), .no, .no, .no])
        (fun i x => lk (look g) sd lo hi ms none 0 = lk (look g) sd lo hi (ms.drop i) x.1 x.2 ∧ wCut sd lo hi x.1 = false ∧ (0 < i → ∃ t, x.1 = some t)) (fun x d => [.dat (gD g), .dat (.int p), .dat (.int lo), .dat (.int hi), .dat (.int sd), .dat (.tuple (nD ms)), .dat (oI x.1), .dat (.int (x.2 : Nat)), .dat d, .no, .no]) (none, 0) ⟨rfl, rfl, fun z => absurd z (Nat.lt_irrefl _)⟩
        (.same (.same (.same (.same (.same (.same (.same (.same (.no (.no (.no .nil))))))))))) (fun i x d hd hI => bd_name) (fun x d t' n' hm => by simp at hm) (fun i x d S2 s4 H4 hd hI A4 => ?_) (fun x s4 H4 hI A4 => ?_)
      · obtain ⟨t, e⟩ := x
        obtain ⟨hI1, hI2, hI3⟩ := hI
        obtain ⟨m, hm, rfl⟩ : ∃ m, ms[i]? = some m ∧ d = .int (m : Nat) := by
          unfold nD at hd
          rw [List.getElem?_map] at hd
          cases hq : ms[i]? with
          | none => rw [hq] at hd; cases hd
          | some m => rw [hq] at hd; exact ⟨m, rfl, (Option.some.inj hd).symm⟩
        have hmm : m ∈ ms := List.mem_of_getElem? hm
        have hml := hlt m hmm
        have hrm := hrk.dn p _ m hx hmm
        have hdrop : ms.drop i = m :: ms.drop (i + 1) := by
          rw [List.drop_eq_getElem_cons (List.getElem?_eq_some_iff.mp hm).1]
          rw [(List.getElem?_eq_some_iff.mp hm).2]
        generalize hr : look g m (wLo sd lo t) (wHi sd hi t) = r at *
        have hgo : lk (look g) sd lo hi ms none 0 = lk (look g) sd lo hi (ms.drop (i + 1)) (some (wUp sd t r.1)) (e + r.2) := by
          rw [hI1, hdrop, lk_go hI2, hr]
        have tail : ∀ s6 H6, At (Cn.at_ ⟨K, m0, S, H, S⟩ S2) [.dat (gD g), .dat (.int p), .dat (.int lo), .dat (.int hi), .dat (.int sd), .dat (.tuple (nD ms)), .dat (.int (wUp sd t r.1)), .dat (.int (e : Nat)), .dat (.int (m : Nat)), .dat (.int r.1), .dat (.int (r.2 : Nat))] s6 H6 → tSeq (tAug 7 (tVar 10) (ipI fun i j => i + j)) (tIfS (tOr (tAnd (tTest (tOp (rEqA K) (tVar 4) (tC (.int 0)))) (tTest (tOp (rI0 fun i j => .bl (decide (i ≥ j))) (tVar 6) (tVar 3)))) (tAnd (tTest (tOp (rEqA K) (tVar 4) (tC (.int 1)))) (tTest (tOp (rI0 fun i j => .bl (decide (i ≤ j))) (tVar 6) (tVar 2))))) tBreak tNext)
            { nx := fun s' H' => ∃ y : Option Int × Nat, (lk (look g) sd lo hi ms none 0 = lk (look g) sd lo hi (ms.drop (i + 1)) y.1 y.2 ∧ wCut sd lo hi y.1 = false ∧ (0 < i + 1 → ∃ t, y.1 = some t)) ∧ At (Cn.at_ ⟨K, m0, S, H, S⟩ S2) [.dat (gD g), .dat (.int p), .dat (.int lo), .dat (.int hi), .dat (.int sd), .dat (.tuple (nD ms)), .dat (oI y.1), .dat (.int (y.2 : Nat)), .no, .no, .no] s' H', rt := Q, bk := fun s4 H4 => tRet (tTup (tCons (tVar 6) (tCons (tVar 7) tNil))) { nx := fun x H' => Q V.non H', rt := Q } s4 H4, ct := fun s' H' => ∃ y : Option Int × Nat, (lk (look g) sd lo hi ms none 0 = lk (look g) sd lo hi (ms.drop (i + 1)) y.1 y.2 ∧ wCut sd lo hi y.1 = false ∧ (0 < i + 1 → ∃ t, y.1 = some t)) ∧ At (Cn.at_ ⟨K, m0, S, H, S⟩ S2) [.dat (gD g), .dat (.int p), .dat (.int lo), .dat (.int hi), .dat (.int sd), .dat (.tuple (nD ms)), .dat (oI y.1), .dat (.int (y.2 : Nat)), .no, .no, .no] s' H' } s6 H6 := fun s6 H6 A6 => by
          walk_at "go"
          refine d_aug A6 rfl (ev_var rfl) fun s7 H7 A7 => ?_
          simp only [List.set_cons_succ, List.set_cons_zero] at A7
          rw [← Int.natCast_add] at A7
          walk_at "go"
          refine d_if A7 (cut_prog hsd rfl rfl rfl rfl) (fun z H8 A8 => ?_) (fun z H8 A8 => ?_)
          · exact rest S2 _ _ _ _ _ _ _ (by rw [hgo, lk_cut z]) A8
          · exact ⟨(some (wUp sd t r.1), e + r.2), ⟨hgo, z, fun _ => ⟨_, rfl⟩⟩, A8.weak (.same (.same (.same (.same (.same (.same (.same (.same (.no (.no (.no .nil)))))))))))⟩
        walk_at "go"
        rcases hsd with rfl | rfl
        · refine d_if A4 (by exact et_test (by walk_at "ev")) (fun _ H5 A5 => ?_) (fun z => by simp at z)
          walk_at "go"
          refine d_asgB A5 (ev_r (ea_cons (ev_var rfl) (ea_cons (ev_var rfl) (ea_cons (a := .int (wLo 0 lo t)) (by
            cases t with
            | none => exact ev_is (ev_if (b := .none) (ev_isNo (t := none) rfl) (fun _ => ev_var rfl) (fun z => by cases z)) rfl
            | some y => exact ev_is (ev_if (a := .none) (ev_isNo (t := some y) rfl) (fun z => by cases z) (fun _ => ev_cb (by walk_at "ea") rc_max2)) rfl) (ea_cons (a := .int (wHi 0 hi t)) (by
            cases t with
            | none => exact ev_var rfl
            | some y => exact ev_var rfl) ea_nil)))) ⟨g, rk, m, _, _, rfl, hg, hrk, hml, by omega, by rw [hr]; rfl⟩) (bd_tup (bds_cons bd_name (bds_cons bd_name bds_nil)) rfl) (fun t' n' h => by simp at h) fun s6 H6 A6 => ?_
          walk_at "go"
          refine d_asg A6 (d := .int (wUp 0 t r.1)) (by
            cases t with
            | none => exact ev_is (ev_if (b := .none) (ev_isNo (t := none) rfl) (fun _ => ev_var rfl) (fun z => by cases z)) rfl
            | some y => exact ev_is (ev_if (a := .none) (ev_isNo (t := some y) rfl) (fun z => by cases z) (fun _ => ev_cb (by walk_at "ea") rc_max2)) rfl) fun s7 H7 A7 => ?_
          simp only [List.set_cons_succ, List.set_cons_zero] at A7
          exact tail _ _ A7
        · refine d_if A4 (by exact et_test (by walk_at "ev")) (fun z => by simp at z) (fun _ H5 A5 => ?_)
          walk_at "go"
          refine d_asgB A5 (ev_r (ea_cons (ev_var rfl) (ea_cons (ev_var rfl) (ea_cons (a := .int (wLo 1 lo t)) (by
            cases t with
            | none => exact ev_var rfl
            | some y => exact ev_var rfl) (ea_cons (a := .int (wHi 1 hi t)) (by
            cases t with
            | none => exact ev_is (ev_if (b := .none) (ev_isNo (t := none) rfl) (fun _ => ev_var rfl) (fun z => by cases z)) rfl
            | some y => exact ev_is (ev_if (a := .none) (ev_isNo (t := some y) rfl) (fun z => by cases z) (fun _ => ev_cb (by walk_at "ea") rc_min2)) rfl) ea_nil)))) ⟨g, rk, m, _, _, rfl, hg, hrk, hml, by omega, by rw [hr]; rfl⟩) (bd_tup (bds_cons bd_name (bds_cons bd_name bds_nil)) rfl) (fun t' n' h => by simp at h) fun s6 H6 A6 => ?_
          walk_at "go"
          refine d_asg A6 (d := .int (wUp 1 t r.1)) (by
            cases t with
            | none => exact ev_is (ev_if (b := .none) (ev_isNo (t := none) rfl) (fun _ => ev_var rfl) (fun z => by cases z)) rfl
            | some y => exact ev_is (ev_if (a := .none) (ev_isNo (t := some y) rfl) (fun z => by cases z) (fun _ => ev_cb (by walk_at "ea") rc_min2)) rfl) fun s7 H7 A7 => ?_
          simp only [List.set_cons_succ, List.set_cons_zero] at A7
          exact tail _ _ A7
      · obtain ⟨t, e⟩ := x
        obtain ⟨hI1, hI2, hI3⟩ := hI
        have hl : (nD ms).length = ms.length := nD_len ms
        obtain ⟨t', rfl⟩ := hI3 (by rw [hl]; exact List.length_pos_iff.mpr hne)
        walk_at "go"
        refine rest S t' e _ _ _ _ _ ?_ A4
        rw [hI1, hl, List.drop_length]
        rfl

/-! ### looked -/
abbrev s_looked : Stmt := top 4
theorem sc_looked : FnScope ["game", "place", "low", "high"] ["game", "place", "low", "high"] (defScope s_looked) := ⟨rfl, rfl, rfl, by decide +kernel, rfl, by decide +kernel, by decide +kernel⟩
def lookedR (ds : List PyData) (d : PyData) : Prop := ∃ (g : List Pl) (rk : Nat → Nat) (p : Nat) (lo hi : Int), ds = [gD g, .int p, .int lo, .int hi] ∧ Good g ∧ Rk g rk ∧ p < g.length ∧ d = lkD (look g p lo hi)
theorem ok_looked {f : Addr} {fd : FuncData} {k : Nat} (F : FunK K "looked" s_looked [("low", -100), ("high", 100)] f fd) (c_look : Cal P w K mg base k "look" ["game", "place", "low", "high"] (spR K (lookR 13))) :
    FnOk P w K mg base CX0 (k + 1) f fd ["game", "place", "low", "high"] (spR K lookedR) := by
  refine F.ok sc_looked (fun vs H Q E h => ?_) (fun cdv A outer s H vs Q E hr h => ?_)
  · obtain ⟨S, ds, d, _, hd, ⟨g, rk, p, lo, hi, rfl, _⟩, _⟩ := h
    exact DpAll_len hd
  · obtain ⟨S, ds, d, hS, hd, ⟨g, rk, p, lo, hi, rfl, hg, hrk, hp, rfl⟩, q⟩ := h
    cases hd with
    | cons hd1 hd2 =>
    cases hd2 with
    | cons hd2 hd3 =>
    cases hd3 with
    | cons hd3 hd4 =>
    cases hd4 with
    | cons hd4 hd5 =>
    cases hd5
    refine ⟨_,
      (pss_one (ps_ret (pe_cal c_look hr (pa_cons (pv 0) (pa_cons (pv 1) (pa_cons (pv 2) (pa_cons (pv 3) pa_nil)))))))
      , ?_⟩
    try simp only [cxK]
    have A0 : At ⟨K, m0, S, H, S⟩ [.dat (gD g), .dat (.int p), .dat (.int lo), .dat (.int hi)] (start ["game", "place", "low", "high"] [_, _, _, _]) H :=
      ⟨⟨S, Grow.refl hS, env_dat hd1 (env_dat hd2 (env_dat hd3 (env_dat hd4 env_nil))), Same.refl S⟩, fun t' n' hm => by simp at hm⟩
    walk_at "go"
    have := hg.len
    have := hrk.lt p hp
    exact d_ret A0 (by exact ev_r (by walk_at "ea") ⟨g, rk, p, lo, hi, rfl, hg, hrk, hp, by omega, rfl⟩) q

/-! ### look, by hand -/
abbrev s_l_look : Stmt := top 13
theorem sc_l_look : FnScope ["_law_game", "_law_place", "_law_under", "_law_above", "_law_side", "_law_more", "_law_best", "_law_ends", "_law_move", "_law_first", "_law_last", "_law_one", "_law_many"] ["_law_game", "_law_place", "_law_under", "_law_above"] (defScope s_l_look) := ⟨rfl, rfl, rfl, by decide +kernel, rfl, by decide +kernel, by decide +kernel⟩
theorem go_hand {l : List Sl} {i j lo' hi' : Nat} {s lo hi : Int} {t : Option Int} (hs : s = 0 ∨ s = 1) (h1 : l[i]? = some (.dat (.int s))) (h2 : l[j]? = some (.dat (oI t))) (h3 : l[lo']? = some (.dat (.int lo))) (h4 : l[hi']? = some (.dat (.int hi))) :
    EvT K (tOr (tB (tIsN (tVar j))) (tIfT (tTest (tOp (rEqA K) (tVar i) (tC (.int 0)))) (tTest (tOp (rI0 fun i j => .bl (decide (i < j))) (tVar j) (tVar hi'))) (tTest (tOp (rI0 fun i j => .bl (decide (i > j))) (tVar j) (tVar lo'))))) l (!wCut s lo hi t) := by
  cases t with
  | none => exact et_is (et_or (j := true) (ev_isNo h2) (fun z => by cases z)) rfl
  | some x =>
    refine et_is (et_or (ev_isNo h2) (fun _ => et_ifT (et_test (ev_op (ev_var h1) ev_int (rd_eqA rd_eqI))) (fun _ => et_test (ev_op (ev_var h2) (ev_var h4) (rd_I0 fun _ => .bl _))) (fun _ => et_test (ev_op (ev_var h2) (ev_var h3) (rd_I0 fun _ => .bl _))))) ?_
    rcases hs with rfl | rfl
    · simp [wCut, ← Int.not_le]
    · simp [wCut, ← Int.not_le]
theorem ok_l_look {f : Addr} {fd : FuncData} {k j : Nat} (F : Fun K "_law_look" "_law_look" s_l_look f fd) (B : Bn mg) (c_l_look : Cal P w K mg base k "_law_look" ["_law_game", "_law_place", "_law_under", "_law_above"] (spR K (lookR j))) :
    FnOk P w K mg base CX0 (k + 1) f fd ["_law_game", "_law_place", "_law_under", "_law_above"] (spR K (lookR (j + 1))) := by
  refine F.ok sc_l_look (fun vs H Q E h => ?_) (fun cdv A outer s H vs Q E hr h => ?_)
  · obtain ⟨S, ds, d, _, hd, ⟨g, rk, p, lo, hi, rfl, _⟩, _⟩ := h
    exact DpAll_len hd
  · obtain ⟨S, ds, d, hS, hd, ⟨g, rk, p, lo, hi, rfl, hg, hrk, hp, hj, rfl⟩, q⟩ := h
    cases hd with
    | cons hd1 hd2 =>
    cases hd2 with
    | cons hd2 hd3 =>
    cases hd3 with
    | cons hd3 hd4 =>
    cases hd4 with
    | cons hd4 hd5 =>
    cases hd5
    refine ⟨_,
      (pss_cons (ps_asg (pe_ix (k_ix K) (pv 0) (pv 1) (fun _ _ => rfl)) (k_tup (n := 2) K rfl (pgs_cons (pg_name (i := 4) sc_l_look.nd rfl (by first | exact Or.inl rfl | exact Or.inr rfl)) (pgs_cons (pg_name (i := 5) sc_l_look.nd rfl (by first | exact Or.inl rfl | exact Or.inr rfl)) pgs_nil))))
        (pss_cons (ps_if (pt_cmpR (k_eq K hr.units) (pv 4) pe_str (nomark _))
          (pss_one (ps_ret (pe_tup (pa_cons (pv 5) (pa_cons pe_int pa_nil)))))
          pss_nil)
        (pss_cons (ps_asg (pe_tup (pa_cons pe_non (pa_cons pe_int pa_nil))) (k_tup (n := 2) K rfl (pgs_cons (pg_name (i := 6) sc_l_look.nd rfl (by first | exact Or.inl rfl | exact Or.inr rfl)) (pgs_cons (pg_name (i := 7) sc_l_look.nd rfl (by first | exact Or.inl rfl | exact Or.inr rfl)) pgs_nil))))
        (pss_cons (ps_for PassesOwn.never rfl (k_seq K (pv 5)) (pg_name (i := 8) sc_l_look.nd rfl (by first | exact Or.inl rfl | exact Or.inr rfl))
          (pss_one (ps_if (PW.pt (pw_or (pt_cmp (pc_isN (pv 6))) (pw_or1 (pt_ifE (pt_cmpR (k_eq K hr.units) (pv 4) pe_int (nomark _)) (pt_cmpR op_lt (pv 6) (pv 3) (nomark _)) (pt_cmpR op_gt (pv 6) (pv 2) (nomark _))))))
            (pss_cons (ps_par (i := 9) (j := 10) (by rfl) sc_l_look.nd rfl rfl (by decide) rfl rfl (pa_cons (pv 2) (pa_cons (pv 3) pa_nil)) (by rfl))
            (pss_cons (ps_if (PW.pt (pw_and (pt_cmp (pc_notN (pv 6))) (pw_and1 (pt_cmpR (k_eq K hr.units) (pv 4) pe_int (nomark _)))))
              (pss_one (ps_set (i := 9) sc_l_look.nd rfl (by first | exact Or.inl rfl | exact Or.inr rfl) (pe_callB (call_max2 rfl) (by rfl) B.max (by decide +kernel) (pa_cons (pv 2) (pa_cons (pv 6) pa_nil)))))
              pss_nil)
            (pss_cons (ps_if (PW.pt (pw_and (pt_cmp (pc_notN (pv 6))) (pw_and1 (pt_cmpR (k_eq K hr.units) (pv 4) pe_int (nomark _)))))
              (pss_one (ps_set (i := 10) sc_l_look.nd rfl (by first | exact Or.inl rfl | exact Or.inr rfl) (pe_callB (call_min2 rfl) (by rfl) B.min (by decide +kernel) (pa_cons (pv 3) (pa_cons (pv 6) pa_nil)))))
              pss_nil)
            (pss_cons (ps_asg (pe_cal c_l_look hr (pa_cons (pv 0) (pa_cons (pv 8) (pa_cons (pv 9) (pa_cons (pv 10) pa_nil))))) (k_tup (n := 2) K rfl (pgs_cons (pg_name (i := 11) sc_l_look.nd rfl (by first | exact Or.inl rfl | exact Or.inr rfl)) (pgs_cons (pg_name (i := 12) sc_l_look.nd rfl (by first | exact Or.inl rfl | exact Or.inr rfl)) pgs_nil))))
            (pss_cons (ps_set (i := 7) sc_l_look.nd rfl (by first | exact Or.inl rfl | exact Or.inr rfl) (pe_op (k_plus K) (pv 7) (pv 12)))
            (pss_one (ps_set (i := 6) sc_l_look.nd rfl (by first | exact Or.inl rfl | exact Or.inr rfl) (pe_ifExp (pt_cmp (pc_isN (pv 6))) (pv 11) (pe_ix (k_ix K) (pe_callB (k_sorted K) (by rfl) B.sorted (by decide +kernel) (pa_cons (pe_lst (pa_cons (pv 6) (pa_cons (pv 11) pa_nil))) pa_nil)) (pe_op op_sub pe_int (pv 4)) (fun _ _ => rfl))))))))))
            pss_nil)))
        (pss_one (ps_ret (pe_tup (pa_cons (pv 6) (pa_cons (pv 7) pa_nil)))))))))
      , ?_⟩
    try simp only [cxK]
    have A0 : At ⟨K, m0, S, H, S⟩ [.dat (gD g), .dat (.int p), .dat (.int lo), .dat (.int hi), .no, .no, .no, .no, .no, .no, .no, .no, .no] (start ["_law_game", "_law_place", "_law_under", "_law_above", "_law_side", "_law_more", "_law_best", "_law_ends", "_law_move", "_law_first", "_law_last", "_law_one", "_law_many"] [_, _, _, _]) H :=
      ⟨⟨S, Grow.refl hS, env_dat hd1 (env_dat hd2 (env_dat hd3 (env_dat hd4 (env_no (env_no (env_no (env_no (env_no (env_no (env_no (env_no (env_no env_nil)))))))))))), Same.refl S⟩, fun t' n' hm => by simp at hm⟩
    walk_at "go"
    have hx : g[p]? = some g[p] := List.getElem?_eq_getElem hp
    generalize g[p] = x at hx
    refine d_asgB A0 (ev_op (ev_var rfl) (ev_var rfl) (rd_ixT (gD_at hx))) (by rw [Pl.d_eq]; exact bd_tup (bds_cons bd_name (bds_cons bd_name bds_nil)) rfl) (fun t' n' h => by simp at h) fun s1 H1 A1 => ?_
    walk_at "go"
    cases x with
    | fin w =>
      refine d_if A1 (by exact et_test (by walk_at "ev")) (fun _ H2 A2 => ?_) (fun z => by cases z)
      exact d_ret A2 (by exact ev_is (ev_tup (ea_cons (ev_var rfl) (by walk_at "ea")) (by simp)) (by rw [look_fin hrk hx]; rfl)) q
    | mv sd ms =>
      refine d_if A1 (by exact et_test (by walk_at "ev")) (fun z => by cases z) (fun _ H2 A2 => ?_)
      walk_at "go"
      obtain ⟨hsd, hne, _, hlt, hms⟩ := hg.ok p _ hx
      refine d_asgB A2 (ev_tup (by walk_at "ea") (by simp)) (bd_tup (bds_cons bd_name (bds_cons bd_name bds_nil)) rfl) (fun t' n' h => by simp at h) fun s3 H3 A3 => ?_
      simp only [List.set_cons_succ, List.set_cons_zero] at A3
      walk_at "go"
      refine d_for A3 (ei_tup (ev_var rfl)) (fun x : Option Int × Nat => [.dat (gD g), .dat (.int p), .dat (.int lo), .dat (.int hi), .dat (.int sd), .dat (.tuple (nD ms)), .dat (oI x.1), .dat (.int (x.2 : Nat)), .no, .no, .no, .no, .no])
        (fun i x => lk (look g) sd lo hi ms none 0 = lk (look g) sd lo hi (ms.drop i) x.1 x.2 ∧ (0 < i → ∃ t, x.1 = some t)) (fun x d => [.dat (gD g), .dat (.int p), .dat (.int lo), .dat (.int hi), .dat (.int sd), .dat (.tuple (nD ms)), .dat (oI x.1), .dat (.int (x.2 : Nat)), .dat d, .no, .no, .no, .no]) (none, 0) ⟨rfl, fun z => absurd z (Nat.lt_irrefl _)⟩
        (.same (.same (.same (.same (.same (.same (.same (.same (.no (.no (.no (.no (.no .nil))))))))))))) (fun i x d hd hI => bd_name) (fun x d t' n' hm => by simp at hm) (fun i x d S2 s4 H4 hd hI A4 => ?_) (fun x s4 H4 hI A4 => ?_)
      · obtain ⟨t, e⟩ := x
        obtain ⟨hI1, hI3⟩ := hI
        obtain ⟨m, hm, rfl⟩ : ∃ m, ms[i]? = some m ∧ d = .int (m : Nat) := by
          unfold nD at hd
          rw [List.getElem?_map] at hd
          cases hq : ms[i]? with
          | none => rw [hq] at hd; cases hd
          | some m => rw [hq] at hd; exact ⟨m, rfl, (Option.some.inj hd).symm⟩
        have hmm : m ∈ ms := List.mem_of_getElem? hm
        have hml := hlt m hmm
        have hrm := hrk.dn p _ m hx hmm
        have hdrop : ms.drop i = m :: ms.drop (i + 1) := by
          rw [List.drop_eq_getElem_cons (List.getElem?_eq_some_iff.mp hm).1]
          rw [(List.getElem?_eq_some_iff.mp hm).2]
        generalize hr : look g m (wLo sd lo t) (wHi sd hi t) = r at *
        walk_at "go"
        refine d_if A4 (go_hand hsd rfl rfl rfl rfl) (fun z H5 A5 => ?_) (fun z H5 A5 => ?_)
        · have hI2 : wCut sd lo hi t = false := by simpa using z
          have hgo : lk (look g) sd lo hi ms none 0 = lk (look g) sd lo hi (ms.drop (i + 1)) (some (wUp sd t r.1)) (e + r.2) := by
            rw [hI1, hdrop, lk_go hI2, hr]
          walk_at "go"
          refine d_par A5 (ev_var rfl) (ev_var rfl) fun s6 H6 A6 => ?_
          simp only [List.set_cons_succ, List.set_cons_zero] at A6
          walk_at "go"
          refine d_ifAsg (d := .int (wLo sd lo t)) A6 (by exact et_and (ev_notNo rfl) (fun _ => et_test (by walk_at "ev"))) (fun z => ?_) (fun z => ?_) fun s7 H7 A7 => ?_
          · obtain ⟨z1, z2⟩ := Bool.and_eq_true_iff.mp z
            have z2 := of_decide_eq_true z2
            subst z2
            cases t with
            | none => cases z1
            | some y => exact ev_cb (ea_cons (ev_var rfl) (ea_cons (ev_var rfl) ea_nil)) rc_max2
          · cases t with
            | none => rfl
            | some y =>
              have : sd ≠ 0 := by simpa using z
              show some (Sl.dat (.int lo)) = some (Sl.dat (.int (if sd = 0 then max lo y else lo)))
              rw [if_neg this]
          simp only [List.set_cons_succ, List.set_cons_zero] at A7
          walk_at "go"
          refine d_ifAsg (d := .int (wHi sd hi t)) A7 (by exact et_and (ev_notNo rfl) (fun _ => et_test (by walk_at "ev"))) (fun z => ?_) (fun z => ?_) fun s8 H8 A8 => ?_
          · obtain ⟨z1, z2⟩ := Bool.and_eq_true_iff.mp z
            have z2 := of_decide_eq_true z2
            subst z2
            cases t with
            | none => cases z1
            | some y => exact ev_cb (ea_cons (ev_var rfl) (ea_cons (ev_var rfl) ea_nil)) rc_min2
          · cases t with
            | none => rfl
            | some y =>
              have z1 : sd ≠ 1 := by simpa using z
              have z0 : sd = 0 := by rcases hsd with h | h; exact h; exact absurd h z1
              show some (Sl.dat (.int hi)) = some (Sl.dat (.int (if sd = 0 then hi else min hi y)))
              rw [if_pos z0]
          simp only [List.set_cons_succ, List.set_cons_zero] at A8
          walk_at "go"
          refine d_asgB A8 (ev_r (by walk_at "ea") ⟨g, rk, m, _, _, rfl, hg, hrk, hml, by omega, by rw [hr]; rfl⟩) (bd_tup (bds_cons bd_name (bds_cons bd_name bds_nil)) rfl) (fun t' n' h => by simp at h) fun s9 H9 A9 => ?_
          walk_at "go"
          refine d_asg A9 (ev_op (ev_var rfl) (ev_var rfl) rd_plusI) fun s10 H10 A10 => ?_
          simp only [List.set_cons_succ, List.set_cons_zero] at A10
          rw [← Int.natCast_add] at A10
          walk_at "go"
          refine d_asg (d := .int (wUp sd t r.1)) A10 (by
            cases t with
            | none => exact ev_is (ev_if (b := .none) (ev_isNo (t := none) rfl) (fun _ => ev_var rfl) (fun z => by cases z)) rfl
            | some y => exact ev_is (ev_if (a := .none) (ev_isNo (t := some y) rfl) (fun z => by cases z) (fun _ => ev_op (ev_cb (ea_cons (ev_lst (ds := [.int y, .int r.1]) (ea_cons (ev_var rfl) (ea_cons (ev_var rfl) ea_nil)) (by simp)) ea_nil) (rc_sorted (ns := [y, r.1]))) (ev_op ev_int (ev_var rfl) (rd_I0 fun _ => .int _)) (rd_ixL (sort2 hsd)))) rfl) fun s11 H11 A11 => ?_
          exact ⟨(some (wUp sd t r.1), e + r.2), ⟨hgo, fun _ => ⟨_, rfl⟩⟩, A11.weak (.same (.same (.same (.same (.same (.same (.same (.same (.no (.no (.no (.no (.no .nil)))))))))))))⟩
        · have hI2 : wCut sd lo hi t = true := by simpa using z
          cases t with
          | none => cases hI2
          | some y =>
          walk_at "go"
          refine ⟨(some y, e), ⟨?_, fun _ => ⟨y, rfl⟩⟩, A5.weak (.same (.same (.same (.same (.same (.same (.same (.same (.no (.no (.no (.no (.no .nil)))))))))))))⟩
          rw [hI1, lk_cut hI2, lk_cut hI2]
      · obtain ⟨t, e⟩ := x
        obtain ⟨hI1, hI3⟩ := hI
        have hl : (nD ms).length = ms.length := nD_len ms
        obtain ⟨t', rfl⟩ := hI3 (by rw [hl]; exact List.length_pos_iff.mpr hne)
        walk_at "go"
        refine d_ret A4 (by exact ev_is (ev_tup (ea_cons (ev_var rfl) (ea_cons (ev_var rfl) ea_nil)) (by simp)) (by rw [look_mv hrk hx, hI1, hl, List.drop_length]; rfl)) q

/-! ### worths, by hand -/
abbrev s_l_worth : Stmt := top 12
theorem sc_l_worth : FnScope ["_law_game", "_law_place", "_law_side", "_law_more", "_law_row", "_law_move"] ["_law_game", "_law_place"] (defScope s_l_worth) := ⟨rfl, rfl, rfl, by decide +kernel, rfl, by decide +kernel, by decide +kernel⟩
def worR (k : Nat) (ds : List PyData) (d : PyData) : Prop := ∃ (g : List Pl) (rk : Nat → Nat) (p : Nat), ds = [gD g, .int p] ∧ Good g ∧ Rk g rk ∧ p < g.length ∧ rk p < k ∧ d = .int (wor g p)
theorem ok_l_wor {f : Addr} {fd : FuncData} {k j : Nat} (F : Fun K "_law_worth" "_law_worth" s_l_worth f fd) (B : Bn mg) (c_l_worth : Cal P w K mg base k "_law_worth" ["_law_game", "_law_place"] (spR K (worR j))) :
    FnOk P w K mg base CX0 (k + 1) f fd ["_law_game", "_law_place"] (spR K (worR (j + 1))) := by
  refine F.ok sc_l_worth (fun vs H Q E h => ?_) (fun cdv A outer s H vs Q E hr h => ?_)
  · obtain ⟨S, ds, d, _, hd, ⟨g, rk, p, rfl, _⟩, _⟩ := h
    exact DpAll_len hd
  · obtain ⟨S, ds, d, hS, hd, ⟨g, rk, p, rfl, hg, hrk, hp, hj, rfl⟩, q⟩ := h
    cases hd with
    | cons hd1 hd2 =>
    cases hd2 with
    | cons hd2 hd3 =>
    cases hd3
    refine ⟨_,
      (pss_cons (ps_asg (pe_ix (k_ix K) (pv 0) (pv 1) (fun _ _ => rfl)) (k_tup (n := 2) K rfl (pgs_cons (pg_name (i := 2) sc_l_worth.nd rfl (by first | exact Or.inl rfl | exact Or.inr rfl)) (pgs_cons (pg_name (i := 3) sc_l_worth.nd rfl (by first | exact Or.inl rfl | exact Or.inr rfl)) pgs_nil))))
        (pss_cons (ps_if (pt_cmpR (k_eq K hr.units) (pv 2) pe_str (nomark _))
          (pss_one (ps_ret (pv 3)))
          pss_nil)
        (pss_cons (ps_set (i := 4) sc_l_worth.nd rfl (by first | exact Or.inl rfl | exact Or.inr rfl) (pe_callB (k_sorted K) (by rfl) B.sorted (by decide +kernel) (pa_cons (pe_lc (own := [("_law_move", 5)]) (by rfl) sc_l_worth.nd (k_seq K (pv 3)) (blkOk_by (own := [("_law_move", 5)]) (N := ["_law_game", "_law_place", "_law_side", "_law_more", "_law_row", "_law_move"]) (sc := defScope s_l_worth) (by decide +kernel)) (fun _ _ _ _ _ => (pg_name (i := 5) sc_l_worth.nd rfl (by first | exact Or.inl rfl | exact Or.inr rfl))) (fun _ _ _ _ _ => pts_nil) (fun _ _ _ _ _ => (pe_cal c_l_worth hr (pa_cons (pv 0) (pa_cons (pv 5) pa_nil))))) pa_nil)))
        (pss_one (ps_ret (pe_ifExp (pt_cmpR (k_eq K hr.units) (pv 2) pe_int (nomark _)) (pe_ix (k_ix K) (pv 4) (pe_un un_neg pe_int) (fun _ _ => rfl)) (pe_ix (k_ix K) (pv 4) pe_int (fun _ _ => rfl))))))))
      , ?_⟩
    try simp only [cxK]
    have A0 : At ⟨K, m0, S, H, S⟩ [.dat (gD g), .dat (.int p), .no, .no, .no, .no] (start ["_law_game", "_law_place", "_law_side", "_law_more", "_law_row", "_law_move"] [_, _]) H :=
      ⟨⟨S, Grow.refl hS, env_dat hd1 (env_dat hd2 (env_no (env_no (env_no (env_no env_nil))))), Same.refl S⟩, fun t' n' hm => by simp at hm⟩
    walk_at "go"
    have hx : g[p]? = some g[p] := List.getElem?_eq_getElem hp
    generalize g[p] = x at hx
    refine d_asgB A0 (ev_op (ev_var rfl) (ev_var rfl) (rd_ixT (gD_at hx))) (by rw [Pl.d_eq]; exact bd_tup (bds_cons bd_name (bds_cons bd_name bds_nil)) rfl) (fun t' n' h => by simp at h) fun s1 H1 A1 => ?_
    walk_at "go"
    cases x with
    | fin w =>
      refine d_if A1 (by exact et_test (by walk_at "ev")) (fun _ H2 A2 => ?_) (fun z => by cases z)
      exact d_ret A2 (by exact ev_is (ev_var rfl) (by rw [wor_fin hrk hx]; rfl)) q
    | mv sd ms =>
      refine d_if A1 (by exact et_test (by walk_at "ev")) (fun z => by cases z) (fun _ H2 A2 => ?_)
      walk_at "go"
      obtain ⟨hsd, hne, _, hlt, hms⟩ := hg.ok p _ hx
      have hne' : ms.map (wor g) ≠ [] := fun z => hne (by simpa using z)
      refine d_asg A2 (ev_cb (ea_cons (ev_is (b := .list ((ms.map (wor g)).map .int)) (ev_lcA (xs := ms) (h := fun m => .int (m : Nat)) (f := fun m => .int (wor g m)) (ei_tup (ev_var rfl)) (gin_name (by decide)) gmono_name (fun y _ => bd_name) (fun y hy => ev_r (by walk_at "ea") ⟨g, rk, y, rfl, hg, hrk, hlt y hy, by have := hrk.dn p _ y hx hy; omega, rfl⟩) (by omega)) (by rw [List.map_map]; rfl)) ea_nil) rc_sorted) fun s4 H4 A4 => ?_
      walk_at "go"
      refine d_ret A4 (by
        refine ev_is (ev_if (a := .int (chI sd (ms.map (wor g)))) (b := .int (chI sd (ms.map (wor g)))) (by exact et_test (by walk_at "ev")) (fun z => ev_op (ev_var rfl) ev_m1 (rd_ixL ?_)) (fun z => ev_op (ev_var rfl) ev_int (rd_ixL ?_))) (by rw [wor_mv hrk hx]; split <;> rfl)
        · have h := sort_ch hne' (s := sd)
          rw [if_pos (by simpa using z)] at h
          exact h
        · have h := sort_ch hne' (s := sd)
          rw [if_neg (by simpa using z)] at h
          exact h) q

/-! ### drawn windows -/
abbrev s_l_drawn_window : Stmt := top 14
theorem sc_l_drawn_window : FnScope ["_law_script", "_law_town", "_law_worth_here", "_law_near", "_law_under", "_law_some", "_law_above"] ["_law_script", "_law_town", "_law_worth_here"] (defScope s_l_drawn_window) := ⟨rfl, rfl, rfl, by decide +kernel, rfl, by decide +kernel, by decide +kernel⟩
def dwiPre (sc : PyData) (as : List PyData) (n : Nat) : Prop := Scr sc ∧ (∃ w : Int, as = [.int w]) ∧ n ≤ 80000
def dwiRes (as : List PyData) (n : Nat) (d : PyData) (n' : Nat) : Prop := ∃ lo hi : Int, d = .tuple [.int lo, .int hi] ∧ lo < hi ∧ -100 ≤ lo ∧ hi ≤ 100 ∧ n' = n + 8
theorem ok_window {f : Addr} {fd : FuncData} {k : Nat} (F : Fun K "_law_drawn_window" "_law_drawn_window" s_l_drawn_window f fd) (B : Bn mg) (c_l_draw : Cal P w K mg base k "_law_draw" ["_law_script", "_law_town", "_law_many"] (spT K drawPre drawRes))
    (c_l_pick : Cal P w K mg base k "_law_pick" ["_law_script", "_law_town", "_law_some"] (spT K pickPre pickRes)) :
    FnOk P w K mg base CX0 (k + 1) f fd ["_law_script", "_law_town", "_law_worth_here"] (spT K dwiPre dwiRes) := by
  refine F.ok sc_l_drawn_window (fun vs H Q E h => ?_) (fun cdv A outer s H vs Q E hr h => ?_)
  · obtain ⟨S, v0, t, ws, sc, as, n, rfl, _, _, _, _, hd, ⟨_, ⟨w, rfl⟩, _⟩, _⟩ := h
    have := DpAll_len hd
    simp [this]
  · obtain ⟨S, v0, t, ws, sc, as, n, rfl, hS, h0, hst, ht, hd, ⟨hsc, ⟨w, rfl⟩, hn⟩, q⟩ := h
    cases hd with
    | cons hd1 hd2 =>
    cases hd2
    refine ⟨_,
      (pss_cons (ps_set (i := 3) sc_l_drawn_window.nd rfl (by first | exact Or.inl rfl | exact Or.inr rfl) (pe_op op_sub (pe_op (k_plus K) (pv 2) (pe_cal c_l_draw hr (pa_cons (pv 0) (pa_cons (pv 1) (pa_cons pe_int pa_nil))))) pe_int))
        (pss_cons (ps_set (i := 4) sc_l_drawn_window.nd rfl (by first | exact Or.inl rfl | exact Or.inr rfl) (pe_cal c_l_pick hr (pa_cons (pv 0) (pa_cons (pv 1) (pa_cons (pe_lst (pa_cons (pe_un un_neg pe_int) (pa_cons (pe_op op_sub (pv 3) pe_int) (pa_cons (pe_op op_sub (pv 3) pe_int) (pa_cons (pe_op op_sub (pv 3) pe_int) (pa_cons (pe_un un_neg pe_int) (pa_cons (pe_op op_sub (pe_cal c_l_draw hr (pa_cons (pv 0) (pa_cons (pv 1) (pa_cons pe_int pa_nil)))) pe_int) pa_nil))))))) pa_nil)))))
        (pss_cons (ps_set (i := 4) sc_l_drawn_window.nd rfl (by first | exact Or.inl rfl | exact Or.inr rfl) (pe_callB (call_max2 rfl) (by rfl) B.max (by decide +kernel) (pa_cons (pe_un un_neg pe_int) (pa_cons (pe_callB (call_min2 rfl) (by rfl) B.min (by decide +kernel) (pa_cons pe_int (pa_cons (pv 4) pa_nil))) pa_nil))))
        (pss_cons (ps_setLc (i := 5) (own := [("_law_above", 6)]) (by rfl) sc_l_drawn_window.nd rfl rfl (sw_true rfl rfl rfl (by decide +kernel)) (k_seq K (pe_tup (pa_cons pe_int (pa_cons (pv 3) (pa_cons (pe_op (k_plus K) (pv 3) pe_int) (pa_cons (pe_op (k_plus K) (pv 2) pe_int) (pa_cons (pe_op (k_plus K) (pv 4) pe_int) pa_nil))))))) (blkOk_by (own := [("_law_above", 6)]) (N := ["_law_script", "_law_town", "_law_worth_here", "_law_near", "_law_under", "_law_some", "_law_above"]) (sc := defScope s_l_drawn_window) (by decide +kernel)) (fun _ _ _ _ _ => (pg_name (i := 6) sc_l_drawn_window.nd rfl (by first | exact Or.inl rfl | exact Or.inr rfl))) (fun _ _ _ _ _ => pts_one (pt_chain op_lt op_le (pv 4) (pv 6) pe_int)) (fun _ _ _ _ _ => (pv 6)))
        (pss_one (ps_ret (pe_tup (pa_cons (pv 4) (pa_cons (pe_cal c_l_pick hr (pa_cons (pv 0) (pa_cons (pv 1) (pa_cons (pv 5) pa_nil)))) pa_nil)))))))))
      , ?_⟩
    try simp only [cxK]
    have A0 : At ⟨K, Dz.mt t, S, H, S⟩ [.dat sc, .town t n, .dat (.int w), .no, .no, .no, .no] (start ["_law_script", "_law_town", "_law_worth_here", "_law_near", "_law_under", "_law_some", "_law_above"] [v0, .ref t, _]) H :=
      ⟨⟨S, Grow.refl hS, env_dat h0 (env_town (env_dat hd1 (env_no (env_no (env_no (env_no env_nil))))) rfl hst ht), Same.refl S⟩, fun t' n' hm => by simp at hm; exact hm.1⟩
    walk_at "go"
    refine dx_asg (it := 1) (R := fun d n' => ∃ x : Int, d = .int x ∧ n' = n + 2) A0 rfl (xw_opR (R1 := fun d n' => ∃ x : Int, d = .int x ∧ n' = n + 2) (xw_opL (ev_var rfl) (ex_mono (ex_draw hsc rfl rfl ev_int (by decide) (by omega)) (fun d n' h => by obtain ⟨j, rfl, hj, en⟩ := h; exact ⟨_, rd_plusI, _, rfl, en⟩))) (fun d n' h => by obtain ⟨x, rfl, en⟩ := h; exact ⟨_, _, ev_int, rd_I0 (c := .int (x - 2)) fun _ => .int _, _, rfl, en⟩)) fun d n' s1 H1 r A1 => ?_
    obtain ⟨near, rfl, rfl⟩ := r
    walk_at "go"
    refine dx_asg (it := 1) (R := fun d n' => ∃ x : Int, d = .int x ∧ n' = n + 6) A1 rfl (xw_dr rfl rfl (xw_cons (R1 := fun d n' => ∃ ns : List Int, d = .list (ns.map .int) ∧ ns ≠ [] ∧ n' = n + 4) (xw_lst (xw_consE (by walk_at "ev") (xw_consE (by walk_at "ev") (xw_consE (by walk_at "ev") (xw_consE (by walk_at "ev") (xw_consE (by walk_at "ev") (xw_cons (xw_opR (R := fun d n' => ∃ x : Int, d = .int x ∧ n' = n + 4) (ex_draw hsc rfl rfl ev_int (by decide) (by omega)) (fun d n' h => by obtain ⟨j, rfl, hj, en⟩ := h; exact ⟨_, _, ev_int, rd_I0 (c := .int ((j : Int) - 100)) fun _ => .int _, _, rfl, by omega⟩)) (fun d n' h => by obtain ⟨x, rfl, en⟩ := h; exact xw_nil ⟨by simp, [-100, near - 1, near - 1, near - 3, -99, x], rfl, by simp, en⟩)))))))) (fun a n1 h1 => ?_))) fun d n' s2 H2 r A2 => ?_
    · obtain ⟨ns, rfl, hne, rfl⟩ := h1
      refine xw_nil ⟨⟨hsc, ⟨_, _, rfl, .inl rfl, by simpa using hne⟩, by omega⟩, fun d n' ⟨hm, en⟩ => ?_⟩
      obtain ⟨x, _, rfl⟩ := List.mem_map.mp (hm _ _ rfl (.inl rfl))
      exact ⟨x, rfl, by omega⟩
    obtain ⟨u0, rfl, rfl⟩ := r
    walk_at "go"
    refine d_asg (d := .int (max (-100) (min 99 u0))) A2 (ev_cb (ea_cons (by walk_at "ev") (ea_cons (ev_cb (by walk_at "ea") rc_min2) ea_nil)) rc_max2) fun s3 H3 A3 => ?_
    simp only [List.set_cons_succ, List.set_cons_zero] at A3
    generalize hlo : max (-100) (min 99 u0) = lo at A3
    walk_at "go"
    have hi : EvI K (iSeq K (tTup (tCons (tC (.int 100)) (tCons (tVar 3) (tCons (tOp (rPlus K) (tVar 3) (tC (.int 2))) (tCons (tOp (rPlus K) (tVar 2) (tC (.int 1))) (tCons (tOp (rPlus K) (tVar 4) (tC (.int 1))) tNil))))))) [.dat sc, .town t (n + 6), .dat (.int w), .dat (.int near), .dat (.int lo), .no, .no] ([100, near, near + 2, w + 1, lo + 1].map PyData.int) := ei_tup (ds := [.int 100, .int near, .int (near + 2), .int (w + 1), .int (lo + 1)]) (ev_tup (by walk_at "ea") (by simp))
    refine d_asg (d := .list (([100, near, near + 2, w + 1, lo + 1].filter fun x => decide (lo < x) && decide (x ≤ 100)).map .int)) A3 (ev_lc (l := [.dat sc, .town t (n + 6), .dat (.int w), .dat (.int near), .dat (.int lo), .no, .no]) (xs := [100, near, near + 2, w + 1, lo + 1]) (h := PyData.int) (q := fun x => decide (lo < x) && decide (x ≤ 100)) (f := PyData.int) hi (gin_name (by decide)) gmono_name (fun y _ => bd_name) (fun y hy => et_test (ev_chain (ev_var rfl) (ev_var rfl) (rd_I0 fun _ => .bl _) (fun _ => ev_int) (fun _ => rd_I0 fun _ => .bl _))) (fun y hy _ => ev_var rfl) (by simp)) fun s4 H4 A4 => ?_
    walk_at "go"
    have hmem : lo + 1 ∈ [100, near, near + 2, w + 1, lo + 1].filter (fun x => decide (lo < x) && decide (x ≤ 100)) := by
      rw [List.mem_filter]
      refine ⟨by simp, ?_⟩
      have h1 : lo < lo + 1 := by omega
      have h2 : lo + 1 ≤ 100 := by omega
      simp [h1, h2]
    generalize hfl : [100, near, near + 2, w + 1, lo + 1].filter (fun x => decide (lo < x) && decide (x ≤ 100)) = fl at *
    have hall : ∀ x ∈ fl, lo < x ∧ x ≤ 100 := fun x hx => by
      rw [← hfl, List.mem_filter, Bool.and_eq_true, decide_eq_true_eq, decide_eq_true_eq] at hx
      exact hx.2
    refine dx_ret (it := 1) (R := fun d n' => ∃ hi : Int, d = .tuple [.int lo, .int hi] ∧ lo < hi ∧ hi ≤ 100 ∧ n' = n + 8) A4 rfl (xw_tup (xw_consE (ev_var rfl) (xw_cons (R1 := fun d n' => ∃ x : Int, d = .int x ∧ lo < x ∧ x ≤ 100 ∧ n' = n + 8) (xw_dr rfl rfl (xw_consE (ev_var rfl) (xw_nil ⟨⟨hsc, ⟨_, _, rfl, .inl rfl, ?_⟩, by omega⟩, fun d n' ⟨hm, en⟩ => ?_⟩))) (fun a n1 h => ?_)))) fun v S' H' d n' r g t1 d1 => ?_
    · intro z
      rw [List.map_eq_nil_iff] at z
      rw [z] at hmem
      cases hmem
    · obtain ⟨x, hx, rfl⟩ := List.mem_map.mp (hm _ _ rfl (.inl rfl))
      exact ⟨x, rfl, (hall x hx).1, (hall x hx).2, by omega⟩
    · obtain ⟨x, rfl, x1, x2, rfl⟩ := h
      exact xw_nil ⟨by simp, x, rfl, x1, x2, rfl⟩
    · obtain ⟨x, rfl, x1, x2, rfl⟩ := r
      exact q v S' H' _ _ ⟨lo, x, rfl, x1, by omega, x2, rfl⟩ g t1 d1

/-! ### the law -/
abbrev s_law : Stmt := top 15
theorem sc_law : FnScope ["_law_script", "_law_town", "_law_k", "_law_game", "_law_place", "_law_under", "_law_above"] ["_law_script"] (defScope s_law) := ⟨rfl, rfl, rfl, by decide +kernel, rfl, by decide +kernel, by decide +kernel⟩
def spLaw (K : PySem.W.Frag) : Sp := fun vs H Q _ => ∃ (a : Addr) (ns : List Int), vs = [.ref a] ∧ SqL K H a (ns.map V.int) ∧ ns.length ≤ 63 ∧ ∀ H', Q (.bl true) H'
def gh (vs zs : List V) : List V := vs ++ [.int (-100)] ++ zs
def gl (vs zs : List V) : List V := vs ++ zs ++ [.int 100]
def gaa (vs zs : List V) : List V := vs ++ zs
theorem ev_rG {l : List Sl} {R : List PyData → PyData → Prop} {tr tk : TA} {E : XK} {ds es cs : List PyData} {d : PyData} {n m : Nat} {gV : List V → List V → List V} (ha : EvA K tr l ds) (hk : EvA K tk l es) (hg : ∀ S vs zs, DpAll K S vs ds → DpAll K S zs es → DpAll K S (gV vs zs) cs) (h : R cs d) (hn : ds.length = n := by rfl) (hm : es.length = m := by rfl) : Ev K (tCallN n m (spR K R) gV E tr tk) l d :=
  ev_callN ha hk hn hm hg fun vs S H Q E hs hd q => ⟨S, _, d, hs, hd, h, q⟩
theorem plain_lk (r : Int × Nat) : plainN 5 (lkD r) = true := rfl
set_option maxHeartbeats 2000000 in
theorem ok_law {f : Addr} {fd : FuncData} {k : Nat} (F : Fun K "law" "law" s_law f fd) (B : Bn mg) (c_l_draw : Cal P w K mg base k "_law_draw" ["_law_script", "_law_town", "_law_many"] (spT K drawPre drawRes))
    (c_l_straight : Cal P w K mg base k "_law_straight" ["_law_script", "_law_town", "_law_many"] (spT K strPre strRes))
    (c_l_same : Cal P w K mg base k "_law_same" ["_law_got", "_law_due"] (spR K (sameR 5)))
    (c_l_worth : Cal P w K mg base k "_law_worth" ["_law_game", "_law_place"] (spR K (worR 13)))
    (c_l_look : Cal P w K mg base k "_law_look" ["_law_game", "_law_place", "_law_under", "_law_above"] (spR K (lookR 13)))
    (c_l_drawn_window : Cal P w K mg base k "_law_drawn_window" ["_law_script", "_law_town", "_law_worth_here"] (spT K dwiPre dwiRes))
    (ck_looked_low_high : CalK P w K mg base k "looked" ["game", "place", "low", "high"] 2 ["low", "high"] gaa (spR K lookedR))
    (ck_looked_low : CalK P w K mg base k "looked" ["game", "place", "low", "high"] 2 ["low"] gl (spR K lookedR))
    (ck_looked_high : CalK P w K mg base k "looked" ["game", "place", "low", "high"] 2 ["high"] gh (spR K lookedR))
    (cd_looked : CalD P w K mg base k "looked" ["game", "place", "low", "high"] [.int (-100), .int 100] (spR K lookedR)) :
    FnOk P w K mg base CX0 (k + 1) f fd ["_law_script"] (spLaw K) := by
  refine F.ok sc_law (fun vs H Q E h => ?_) (fun cdv A outer s H vs Q E hr h => ?_)
  · obtain ⟨a, ns, rfl, _⟩ := h
    rfl
  · obtain ⟨a, ns, rfl, hS, hns, q⟩ := h
    refine ⟨_,
      (pss_cons (ps_set (i := 1) sc_law.nd rfl (by first | exact Or.inl rfl | exact Or.inr rfl) (pe_lst pa_nil))
        (pss_cons (ps_for PassesOwn.never rfl (pi_range1 (by rfl) B.range (pa_cons pe_int pa_nil)) (pg_name (i := 2) sc_law.nd rfl (by first | exact Or.inl rfl | exact Or.inr rfl))
          (pss_cons (ps_set (i := 3) sc_law.nd rfl (by first | exact Or.inl rfl | exact Or.inr rfl) (pe_cal c_l_straight hr (pa_cons (pv 0) (pa_cons (pv 1) (pa_cons (pe_op (k_plus K) pe_int (pe_cal c_l_draw hr (pa_cons (pv 0) (pa_cons (pv 1) (pa_cons pe_int pa_nil))))) pa_nil)))))
          (pss_one (ps_for PassesOwn.never rfl (pi_range1 (by rfl) B.range (pa_cons (pe_callB (k_len K) (by rfl) B.len (by decide +kernel) (pa_cons (pv 3) pa_nil)) pa_nil)) (pg_name (i := 4) sc_law.nd rfl (by first | exact Or.inl rfl | exact Or.inr rfl))
            (pss_cons (ps_asg (pe_cal c_l_drawn_window hr (pa_cons (pv 0) (pa_cons (pv 1) (pa_cons (pe_cal c_l_worth hr (pa_cons (pv 3) (pa_cons (pv 4) pa_nil))) pa_nil)))) (k_tup (n := 2) K rfl (pgs_cons (pg_name (i := 5) sc_law.nd rfl (by first | exact Or.inl rfl | exact Or.inr rfl)) (pgs_cons (pg_name (i := 6) sc_law.nd rfl (by first | exact Or.inl rfl | exact Or.inr rfl)) pgs_nil))))
            (pss_cons (ps_if (pt_not (k_tru K (pe_cal c_l_same hr (pa_cons (pe_calK ck_looked_low_high hr (pa_cons (pv 3) (pa_cons (pv 4) pa_nil)) (pk_cons (pv 5) (pk_cons (pv 6) pk_nil))) (pa_cons (pe_cal c_l_look hr (pa_cons (pv 3) (pa_cons (pv 4) (pa_cons (pv 5) (pa_cons (pv 6) pa_nil))))) pa_nil))) (by intro _; rfl)))
              (pss_one (ps_ret pe_bl))
              pss_nil)
            (pss_cons (ps_if (pt_not (k_tru K (pe_cal c_l_same hr (pa_cons (pe_calD cd_looked hr (pa_cons (pv 3) (pa_cons (pv 4) pa_nil))) (pa_cons (pe_cal c_l_look hr (pa_cons (pv 3) (pa_cons (pv 4) (pa_cons (pe_un un_neg pe_int) (pa_cons pe_int pa_nil))))) pa_nil))) (by intro _; rfl)))
              (pss_one (ps_ret pe_bl))
              pss_nil)
            (pss_cons (ps_if (pt_not (k_tru K (pe_cal c_l_same hr (pa_cons (pe_calK ck_looked_high hr (pa_cons (pv 3) (pa_cons (pv 4) pa_nil)) (pk_cons (pv 6) pk_nil)) (pa_cons (pe_cal c_l_look hr (pa_cons (pv 3) (pa_cons (pv 4) (pa_cons (pe_un un_neg pe_int) (pa_cons (pv 6) pa_nil))))) pa_nil))) (by intro _; rfl)))
              (pss_one (ps_ret pe_bl))
              pss_nil)
            (pss_one (ps_if (pt_not (k_tru K (pe_cal c_l_same hr (pa_cons (pe_calK ck_looked_low hr (pa_cons (pv 3) (pa_cons (pv 4) pa_nil)) (pk_cons (pv 5) pk_nil)) (pa_cons (pe_cal c_l_look hr (pa_cons (pv 3) (pa_cons (pv 4) (pa_cons (pv 5) (pa_cons pe_int pa_nil))))) pa_nil))) (by intro _; rfl)))
              (pss_one (ps_ret pe_bl))
              pss_nil))))))))))
        (pss_one (ps_ret pe_bl))))
      , ?_⟩
    try simp only [cxK]
    have hsc : Scr (.list (ns.map .int)) := ⟨ns, rfl, hns⟩
    generalize hsd : PyData.list (ns.map .int) = sc at hsc
    have h0 : Dp K H (.ref a) sc := by rw [← hsd]; exact .lst hS (DpAll_ints ns)
    have A0 : At ⟨K, fun b => H b = none, H, H, H⟩ [.dat sc, .no, .no, .no, .no, .no, .no] (start ["_law_script", "_law_town", "_law_k", "_law_game", "_law_place", "_law_under", "_law_above"] [_]) H :=
      ⟨⟨H, Grow.refl (Same.refl H), env_dat h0 (env_no (env_no (env_no (env_no (env_no (env_no env_nil)))))), Same.refl H⟩, fun t' n' hm => by simp at hm⟩
    walk_at "go"
    refine d_asgL A0 (el_lst ea_nil (by decide)) fun t s1 H1 A1 => ?_
    have A2 := A1.toTown (i := 1) rfl fun _ z => z
    walk_at "go"
    refine d_for A2 (ei_rng1 ev_int (by decide) (by decide)) (fun n : Nat => [.dat sc, .town t n, .no, .no, .no, .no, .no])
      (fun i n => n ≤ 2000 * i) (fun n d => [.dat sc, .town t n, .dat d, .no, .no, .no, .no]) 0 (Nat.le_refl _) (.same (.same (.no (.no (.no (.no (.no .nil)))))))
      (fun i x d hd hI => bd_name) (fun x d t' n' hm => by simp at hm ⊢; exact hm) (fun i n d S1 s2 H2 hd hI A3 => ?_) (fun x s2 H2 hI A3 => ?_)
    · obtain ⟨hi, rfl⟩ := rng_get hd
      have hi6 : i < 6 := hi
      walk_at "go"
      refine dx_asg (it := 1) A3 rfl (ex_strt hsc rfl rfl (by decide) (by omega)) fun d n' s3 H3 r A4 => ?_
      obtain ⟨g, rfl, hg, hst, hg1, hg2, rfl⟩ := r
      obtain ⟨rk, hrk⟩ := hst.rk
      have hgl := hg.len
      walk_at "go"
      refine d_for A4 (ei_rng1 (ev_lenG rfl) (by omega) (by omega)) (fun m : Nat => [.dat sc, .town t m, .no, .dat (gD g), .no, .no, .no])
        (fun i m => m = n + 1002 + 8 * i) (fun m d => [.dat sc, .town t m, .no, .dat (gD g), .dat d, .no, .no]) _ rfl (.same (.same (.no (.same (.no (.no (.no .nil)))))))
        (fun i x d hd hI => bd_name) (fun x d t' n' hm => by simp at hm ⊢; exact hm) (fun p m d S2 s5 H5 hd hI5 A6 => ?_) (fun m s5 H5 hI5 A6 => ?_)
      · obtain ⟨hp, rfl⟩ := rng_get hd
        rw [Int.toNat_natCast] at hp
        rw [Int.zero_add] at A6
        have hrp := hrk.lt p hp
        walk_at "go"
        refine dx_asgB (it := 1) (R := fun d n' => ∃ lo hi : Int, d = .tuple [.int lo, .int hi] ∧ n' = m + 8) A6 rfl (xw_dr rfl rfl (xw_consE (ev_r (by walk_at "ea") ⟨g, rk, p, rfl, hg, hrk, hp, by omega, rfl⟩) (xw_nil ⟨⟨hsc, ⟨_, rfl⟩, by omega⟩, fun d n' r => ?_⟩))) (fun d n' r => ?_)
        · obtain ⟨lo, hi, rfl, _, _, _, rfl⟩ := r
          exact ⟨lo, hi, rfl, rfl⟩
        obtain ⟨lo, hi, rfl, rfl⟩ := r
        refine ⟨_, bd_tup (bds_cons bd_name (bds_cons bd_name bds_nil)) rfl, fun t' n' h => by simp at h; exact A6.tw t' m (by simp [h.1]), fun s6 H6 A7 => ?_⟩
        simp only [List.set_cons_succ, List.set_cons_zero] at A7
        have L : ∀ lo hi : Int, lookedR [gD g, .int p, .int lo, .int hi] (lkD (look g p lo hi)) := fun lo hi => ⟨g, rk, p, lo, hi, rfl, hg, hrk, hp, rfl⟩
        have L2 : ∀ lo hi : Int, lookR 13 [gD g, .int p, .int lo, .int hi] (lkD (look g p lo hi)) := fun lo hi => ⟨g, rk, p, lo, hi, rfl, hg, hrk, hp, by omega, rfl⟩
        walk_at "go"
        refine d_same A7 (ev_rG (by walk_at "ea") (by walk_at "ea") (fun S vs zs h1 h2 => DpAll_app h1 h2) (L lo hi)) (ev_r (by walk_at "ea") (L2 lo hi)) (plain_lk _) fun H7 A8 => ?_
        walk_at "go"
        refine d_same A8 (ev_callD (es := [.int (-100), .int 100]) (by walk_at "ea") (fun S => .cons (.int _) (.cons (.int _) .nil)) fun vs S H Q E hs hd q => ⟨S, _, _, hs, hd, L (-100) 100, q⟩) (ev_r (by walk_at "ea") (L2 (-100) 100)) (plain_lk _) fun H8 A9 => ?_
        walk_at "go"
        refine d_same A9 (ev_rG (by walk_at "ea") (by walk_at "ea") (fun S vs zs h1 h2 => DpAll_app (DpAll_app h1 (.cons (.int _) .nil)) h2) (L (-100) hi)) (ev_r (by walk_at "ea") (L2 (-100) hi)) (plain_lk _) fun H9 A10 => ?_
        walk_at "go"
        refine d_same A10 (ev_rG (by walk_at "ea") (by walk_at "ea") (fun S vs zs h1 h2 => DpAll_app (DpAll_app h1 h2) (.cons (.int _) .nil)) (L lo 100)) (ev_r (by walk_at "ea") (L2 lo 100)) (plain_lk _) fun H10 A11 => ?_
        walk_at "go"
        exact ⟨m + 8, by omega, A11.weak (.same (.same (.no (.same (.no (.no (.no .nil)))))))⟩
      · rw [rng_len, Int.toNat_natCast] at hI5
        walk_at "go"
        exact ⟨m, by omega, A6.weak (.same (.same (.no (.no (.no (.no (.no .nil)))))))⟩
    · walk_at "go"
      refine d_ret A3 ev_bl fun v S' H' g1 d1 => ?_
      cases d1
      exact q H'

/-! ### what the top has written -/
structure DefAt (K : PySem.W.Frag) (x : Str) (st : Stmt) : Prop where
  at_ : ∃ (f : Addr) (oc : Value) (od : Option Addr) (kV dc pm : Value) (an : Option Addr) (cd ct : Value) (sl : Array (Option Value)), PySem.W.nsIn K mainGlobals x = some (some (.ref f)) ∧
    K.lookup f = some ⟨oc, od, .func (PySem.W.fnOf x x (defArgs st) (defBody st) (defScope st) .none kV dc pm an cd ct), sl⟩ ∧ PySem.W.codeIn K cd x = true ∧ PySem.W.keepIn K (.ref f) = true
theorem def_at {K : PySem.W.Frag} {x : Str} {st : Stmt} {f : Addr} {oc : Value} {od an : Option Addr} {kV dc pm cd ct : Value} {sl : Array (Option Value)} (a : PySem.W.nsIn K mainGlobals x = some (some (.ref f)))
    (l : K.lookup f = some ⟨oc, od, .func (PySem.W.fnOf x x (defArgs st) (defBody st) (defScope st) .none kV dc pm an cd ct), sl⟩) (c : PySem.W.codeIn K cd x = true) (k : PySem.W.keepIn K (.ref f) = true) : DefAt K x st := ⟨f, oc, od, kV, dc, pm, an, cd, ct, sl, a, l, c, k⟩
theorem DefAt.ex {K : PySem.W.Frag} {x : Str} {st : Stmt} {h : Heap} {mg : Str → Option Value} (d : DefAt K x st) (X : K.In h) (G : h.Ns mainGlobals mg) : ∃ (f : Addr) (fd : FuncData), Fun K x x st f fd ∧ mg x = some (.ref f) := by
  obtain ⟨f, oc, od, kV, dc, pm, an, cd, ct, sl, a, l, c, k⟩ := d.at_
  exact ⟨f, _, fun_mk l c k, PySem.W.mg_of X G a⟩

theorem same_all {f : Addr} {fd : FuncData} (F : Fun K "_law_same" "_law_same" s_l_same f fd) (B : Bn mg) (hm : mg "_law_same" = some (.ref f)) (hb : Binds K fd ["_law_got", "_law_due"] []) : ∀ k, Cal P w K mg base k "_law_same" ["_law_got", "_law_due"] (spR K (sameR k))
  | 0 => Cal.zero (fun vs H Q E h => by obtain ⟨_, _, _, _, _, ⟨_, _, hp, _⟩, _⟩ := h; cases hp) hm F.kp hb
  | k + 1 => ⟨f, fd, ok_same F B (same_all F B hm hb k), hm, F.kp, hb⟩
theorem fn_zero {f : Addr} {fd : FuncData} {ps : List Str} {sp : Sp} (hsp : ∀ vs H Q E, ¬ sp vs H Q E) : FnOk P w K mg base CX0 0 f fd ps sp :=
  ⟨fun vs H Q E h => absurd h (hsp vs H Q E), fun A outer s H args us vs Q E hr he hb' hv h => absurd h (hsp vs H Q E)⟩
theorem look_all {f : Addr} {fd : FuncData} (F : Fun K "look" "look" s_look f fd) (B : Bn mg) (hm : mg "look" = some (.ref f)) (hb : Binds K fd ["game", "place", "low", "high"] []) : ∀ k, Cal P w K mg base k "look" ["game", "place", "low", "high"] (spR K (lookR k))
  | 0 => Cal.zero (fun vs H Q E h => by obtain ⟨_, _, _, _, _, ⟨_, _, _, _, _, _, _, _, _, hn, _⟩, _⟩ := h; omega) hm F.kp hb
  | k + 1 => ⟨f, fd, ok_look F B (look_all F B hm hb k), hm, F.kp, hb⟩
theorem l_look_all {f : Addr} {fd : FuncData} (F : Fun K "_law_look" "_law_look" s_l_look f fd) (B : Bn mg) (hm : mg "_law_look" = some (.ref f)) (hb : Binds K fd ["_law_game", "_law_place", "_law_under", "_law_above"] []) : ∀ k, Cal P w K mg base k "_law_look" ["_law_game", "_law_place", "_law_under", "_law_above"] (spR K (lookR k))
  | 0 => Cal.zero (fun vs H Q E h => by obtain ⟨_, _, _, _, _, ⟨_, _, _, _, _, _, _, _, _, hn, _⟩, _⟩ := h; omega) hm F.kp hb
  | k + 1 => ⟨f, fd, ok_l_look F B (l_look_all F B hm hb k), hm, F.kp, hb⟩
theorem l_wor_all {f : Addr} {fd : FuncData} (F : Fun K "_law_worth" "_law_worth" s_l_worth f fd) (B : Bn mg) (hm : mg "_law_worth" = some (.ref f)) (hb : Binds K fd ["_law_game", "_law_place"] []) : ∀ k, Cal P w K mg base k "_law_worth" ["_law_game", "_law_place"] (spR K (worR k))
  | 0 => Cal.zero (fun vs H Q E h => by obtain ⟨_, _, _, _, _, ⟨_, _, _, _, _, _, _, hn, _⟩, _⟩ := h; omega) hm F.kp hb
  | k + 1 => ⟨f, fd, ok_l_wor F B (l_wor_all F B hm hb k), hm, F.kp, hb⟩
theorem law_all {h : Heap} (X : K.In h) (G : h.Ns mainGlobals mg) {fa : Addr} (hfa : mg "law" = some (.ref fa))
    (d_look : DefAt K "look" s_look)
    (d_looked : DefAtK K "looked" s_looked [("low", -100), ("high", 100)])
    (d_l_same : DefAt K "_law_same" s_l_same)
    (d_l_draw : DefAt K "_law_draw" s_l_draw)
    (d_l_pick : DefAt K "_law_pick" s_l_pick)
    (d_l_mixed : DefAt K "_law_mixed" s_l_mixed)
    (d_l_drawn_worth : DefAt K "_law_drawn_worth" s_l_drawn_worth)
    (d_l_straight : DefAt K "_law_straight" s_l_straight)
    (d_l_worth : DefAt K "_law_worth" s_l_worth)
    (d_l_look : DefAt K "_law_look" s_l_look)
    (d_l_drawn_window : DefAt K "_law_drawn_window" s_l_drawn_window)
    (d_law : DefAt K "law" s_law)
    (z_len : PySem.W.nsIn K mainGlobals "len" = some none) (z_list : PySem.W.nsIn K mainGlobals "list" = some none) (z_tuple : PySem.W.nsIn K mainGlobals "tuple" = some none) (z_range : PySem.W.nsIn K mainGlobals "range" = some none) (z_zip : PySem.W.nsIn K mainGlobals "zip" = some none) (z_enumerate : PySem.W.nsIn K mainGlobals "enumerate" = some none) (z_abs : PySem.W.nsIn K mainGlobals "abs" = some none) (z_max : PySem.W.nsIn K mainGlobals "max" = some none) (z_min : PySem.W.nsIn K mainGlobals "min" = some none) (z_sum : PySem.W.nsIn K mainGlobals "sum" = some none) (z_all : PySem.W.nsIn K mainGlobals "all" = some none) (z_any : PySem.W.nsIn K mainGlobals "any" = some none) (z_sorted : PySem.W.nsIn K mainGlobals "sorted" = some none) (z_isinstance : PySem.W.nsIn K mainGlobals "isinstance" = some none) (z_int : PySem.W.nsIn K mainGlobals "int" = some none) (z_bool : PySem.W.nsIn K mainGlobals "bool" = some none) (z_str : PySem.W.nsIn K mainGlobals "str" = some none) :
    ∃ fd : FuncData, (∀ (s : Shared) (v : Value), BindsTo s fd ⟨[v], []⟩ [("_law_script", v)]) ∧ ∀ base : Heap, K.In base → base.Ns mainGlobals mg → FnOk P w K mg base CX0 20 fa fd ["_law_script"] (spLaw K) := by
  have B : Bn mg := ⟨PySem.W.mg_none_of X G z_len, PySem.W.mg_none_of X G z_list, PySem.W.mg_none_of X G z_tuple, PySem.W.mg_none_of X G z_range, PySem.W.mg_none_of X G z_zip, PySem.W.mg_none_of X G z_enumerate, PySem.W.mg_none_of X G z_abs, PySem.W.mg_none_of X G z_max, PySem.W.mg_none_of X G z_min, PySem.W.mg_none_of X G z_sum, PySem.W.mg_none_of X G z_all, PySem.W.mg_none_of X G z_any, PySem.W.mg_none_of X G z_sorted, PySem.W.mg_none_of X G z_isinstance, PySem.W.mg_none_of X G z_int, PySem.W.mg_none_of X G z_bool, PySem.W.mg_none_of X G z_str⟩
  obtain ⟨f_look, fd_look, F_look, g_look⟩ := d_look.ex X G
  have B_look := F_look.binds (ps := ["game", "place", "low", "high"]) fun _ _ _ _ _ _ us hl => match us, hl with | [_, _, _, _], _ => rfl
  obtain ⟨f_looked, fd_looked, F_looked, g_looked⟩ := d_looked.ex X G
  obtain ⟨f_l_same, fd_l_same, F_l_same, g_l_same⟩ := d_l_same.ex X G
  have B_l_same := F_l_same.binds (ps := ["_law_got", "_law_due"]) fun _ _ _ _ _ _ us hl => match us, hl with | [_, _], _ => rfl
  obtain ⟨f_l_draw, fd_l_draw, F_l_draw, g_l_draw⟩ := d_l_draw.ex X G
  have B_l_draw := F_l_draw.binds (ps := ["_law_script", "_law_town", "_law_many"]) fun _ _ _ _ _ _ us hl => match us, hl with | [_, _, _], _ => rfl
  obtain ⟨f_l_pick, fd_l_pick, F_l_pick, g_l_pick⟩ := d_l_pick.ex X G
  have B_l_pick := F_l_pick.binds (ps := ["_law_script", "_law_town", "_law_some"]) fun _ _ _ _ _ _ us hl => match us, hl with | [_, _, _], _ => rfl
  obtain ⟨f_l_mixed, fd_l_mixed, F_l_mixed, g_l_mixed⟩ := d_l_mixed.ex X G
  have B_l_mixed := F_l_mixed.binds (ps := ["_law_script", "_law_town", "_law_things"]) fun _ _ _ _ _ _ us hl => match us, hl with | [_, _, _], _ => rfl
  obtain ⟨f_l_drawn_worth, fd_l_drawn_worth, F_l_drawn_worth, g_l_drawn_worth⟩ := d_l_drawn_worth.ex X G
  have B_l_drawn_worth := F_l_drawn_worth.binds (ps := ["_law_script", "_law_town"]) fun _ _ _ _ _ _ us hl => match us, hl with | [_, _], _ => rfl
  obtain ⟨f_l_straight, fd_l_straight, F_l_straight, g_l_straight⟩ := d_l_straight.ex X G
  have B_l_straight := F_l_straight.binds (ps := ["_law_script", "_law_town", "_law_many"]) fun _ _ _ _ _ _ us hl => match us, hl with | [_, _, _], _ => rfl
  obtain ⟨f_l_worth, fd_l_worth, F_l_worth, g_l_worth⟩ := d_l_worth.ex X G
  have B_l_worth := F_l_worth.binds (ps := ["_law_game", "_law_place"]) fun _ _ _ _ _ _ us hl => match us, hl with | [_, _], _ => rfl
  obtain ⟨f_l_look, fd_l_look, F_l_look, g_l_look⟩ := d_l_look.ex X G
  have B_l_look := F_l_look.binds (ps := ["_law_game", "_law_place", "_law_under", "_law_above"]) fun _ _ _ _ _ _ us hl => match us, hl with | [_, _, _, _], _ => rfl
  obtain ⟨f_l_drawn_window, fd_l_drawn_window, F_l_drawn_window, g_l_drawn_window⟩ := d_l_drawn_window.ex X G
  have B_l_drawn_window := F_l_drawn_window.binds (ps := ["_law_script", "_law_town", "_law_worth_here"]) fun _ _ _ _ _ _ us hl => match us, hl with | [_, _, _], _ => rfl
  obtain ⟨f, oc, od, kV, dc, pm, an, cd, ct, sl, a, l, c, kk⟩ := d_law.at_
  have e := hfa.symm.trans (PySem.W.mg_of X G a)
  cases e
  refine ⟨PySem.W.fnOf "law" "law" (defArgs s_law) (defBody s_law) (defScope s_law) .none kV dc pm an cd ct, fun s v => .of_eq rfl, fun base _ _ => ?_⟩
  obtain ⟨_, KLH⟩ := kbn0 F_looked (by simp) 2 ["low", "high"] [] (fun q hq => nomatch hq) (fun us mv ws => us ++ ws) (fun r1 r2 r3 => r1.append r3) (ps := ["game", "place", "low", "high"]) (fun D doc pm an cdv ct us mv ws h1 h2 h3 => match us, h1, mv, h2, ws, h3 with | [_, _], _, [], _, [_, _], _ => rfl)
  obtain ⟨_, KL⟩ := kbn0 F_looked (by simp) 2 ["low"] [("high", .int 100)] (fun q hq => by simp at hq; simp [hq]) (fun us mv ws => us ++ ws ++ mv) (fun r1 r2 r3 => (r1.append r3).append r2) (ps := ["game", "place", "low", "high"]) (fun D doc pm an cdv ct us mv ws h1 h2 h3 => match us, h1, mv, h2, ws, h3 with | [_, _], _, [_], _, [_], _ => ⟨_, _, _, _, _, _, rfl, rfl, rfl⟩)
  obtain ⟨_, KH⟩ := kbn0 F_looked (by simp) 2 ["high"] [("low", .int (-100))] (fun q hq => by simp at hq; simp [hq]) (fun us mv ws => us ++ mv ++ ws) (fun r1 r2 r3 => (r1.append r2).append r3) (ps := ["game", "place", "low", "high"]) (fun D doc pm an cdv ct us mv ws h1 h2 h3 => match us, h1, mv, h2, ws, h3 with | [_, _], _, [_], _, [_], _ => ⟨_, _, _, _, _, _, rfl, rfl, rfl⟩)
  obtain ⟨dv, VB, DB⟩ := F_looked.binds0 (ps := ["game", "place", "low", "high"]) 2 (by simp) rfl (fun D doc pm an cdv ct us ks h1 h2 => match us, h1, ks, h2 with | [_, _], _, [_, _], _ => ⟨_, _, _, _, _, _, rfl, rfl, _, _, _, _, _, _, rfl, rfl, rfl⟩)
  have c1 : Cal P w K mg base 1 "_law_draw" _ _ := ⟨f_l_draw, fd_l_draw, ok_draw F_l_draw B, g_l_draw, F_l_draw.kp, B_l_draw⟩
  have c2 : Cal P w K mg base 2 "_law_pick" _ _ := ⟨f_l_pick, fd_l_pick, ok_pick F_l_pick B c1, g_l_pick, F_l_pick.kp, B_l_pick⟩
  have c3 : Cal P w K mg base 2 "_law_mixed" _ _ := ⟨f_l_mixed, fd_l_mixed, ok_mixed F_l_mixed B c1, g_l_mixed, F_l_mixed.kp, B_l_mixed⟩
  have c4 : Cal P w K mg base 3 "_law_drawn_worth" _ _ := ⟨f_l_drawn_worth, fd_l_drawn_worth, ok_dworth F_l_drawn_worth B (c1.mono (by decide)) c2, g_l_drawn_worth, F_l_drawn_worth.kp, B_l_drawn_worth⟩
  have c5 : Cal P w K mg base 4 "_law_straight" _ _ := ⟨f_l_straight, fd_l_straight, ok_straight F_l_straight B (c1.mono (by decide)) (c3.mono (by decide)) c4, g_l_straight, F_l_straight.kp, B_l_straight⟩
  have c6 : Cal P w K mg base 3 "_law_drawn_window" _ _ := ⟨f_l_drawn_window, fd_l_drawn_window, ok_window F_l_drawn_window B (c1.mono (by decide)) c2, g_l_drawn_window, F_l_drawn_window.kp, B_l_drawn_window⟩
  have c12 := same_all (P := P) (w := w) (base := base) F_l_same B g_l_same B_l_same 5
  have c13 := look_all (P := P) (w := w) (base := base) F_look B g_look B_look 13
  have c14 := l_look_all (P := P) (w := w) (base := base) F_l_look B g_l_look B_l_look 13
  have c15 := l_wor_all (P := P) (w := w) (base := base) F_l_worth B g_l_worth B_l_worth 13
  have c16 := ok_looked (P := P) (w := w) (base := base) F_looked c13
  have kLH : CalK P w K mg base 14 "looked" ["game", "place", "low", "high"] 2 ["low", "high"] gaa (spR K lookedR) := ⟨f_looked, fd_looked, _, c16, g_looked, F_looked.kp, KLH⟩
  have kL : CalK P w K mg base 14 "looked" ["game", "place", "low", "high"] 2 ["low"] gl (spR K lookedR) := ⟨f_looked, fd_looked, _, c16, g_looked, F_looked.kp, KL⟩
  have kH : CalK P w K mg base 14 "looked" ["game", "place", "low", "high"] 2 ["high"] gh (spR K lookedR) := ⟨f_looked, fd_looked, _, c16, g_looked, F_looked.kp, KH⟩
  have cd : CalD P w K mg base 14 "looked" ["game", "place", "low", "high"] [.int (-100), .int 100] (spR K lookedR) := ⟨f_looked, fd_looked, dv, c16, g_looked, F_looked.kp, VB, DB⟩
  exact ok_law (k := 19) (fun_mk l c kk) B (c1.mono (by decide)) (c5.mono (by decide)) (c12.mono (by decide)) (c15.mono (by decide)) (c14.mono (by decide)) (c6.mono (by decide)) (kLH.mono (by decide)) (kL.mono (by decide)) (kH.mono (by decide)) (cd.mono (by decide))

end W
open PySem PySem.W PyProof.Rows
set_option maxRecDepth 100000 in
set_option maxHeartbeats 0 in
theorem PySem.Challenge.cw_searchduel_k06_windows_by_hand_holds : PySem.Challenge.rw_searchduel_k06_windows_by_hand.Holds := by
  w_on; o_law; k_head; (case hw => w_witness2)
  k_fill
  refine L2.walk_of (l := PySem.Challenge.rw_searchduel_k06_windows_by_hand) (n := 63) (k := 20) (x := "_law_script") (CX := fun _ => L2.CX0) (sp := fun w => W.spLaw _) rfl (by decide) rfl ⟨rfl, by decide, by decide⟩ (fun w h Y => PySem.W.kIn_of Y) ?F (fun _ _ a ns hl _ hS => ⟨a, ns, rfl, hS, hl, fun _ => rfl⟩) (fun _ _ _ _ _ h => h)
  case F =>
    intro w mg fa h KX G hmg
    refine' W.law_all KX G hmg (W.def_at ?a_look ?l_look ?c_look ?k_look) (Dz.def_atK ?a_looked ?l_looked ?c_looked ?k_looked (Dz.kw_cons ?w0_looked (Dz.kw_cons ?w1_looked Dz.kw_nil))) (W.def_at ?a_l_same ?l_l_same ?c_l_same ?k_l_same) (W.def_at ?a_l_draw ?l_l_draw ?c_l_draw ?k_l_draw) (W.def_at ?a_l_pick ?l_l_pick ?c_l_pick ?k_l_pick) (W.def_at ?a_l_mixed ?l_l_mixed ?c_l_mixed ?k_l_mixed) (W.def_at ?a_l_drawn_worth ?l_l_drawn_worth ?c_l_drawn_worth ?k_l_drawn_worth) (W.def_at ?a_l_straight ?l_l_straight ?c_l_straight ?k_l_straight) (W.def_at ?a_l_worth ?l_l_worth ?c_l_worth ?k_l_worth) (W.def_at ?a_l_look ?l_l_look ?c_l_look ?k_l_look) (W.def_at ?a_l_drawn_window ?l_l_drawn_window ?c_l_drawn_window ?k_l_drawn_window) (W.def_at ?a_law ?l_law ?c_law ?k_law) ?z_len ?z_list ?z_tuple ?z_range ?z_zip ?z_enumerate ?z_abs ?z_max ?z_min ?z_sum ?z_all ?z_any ?z_sorted ?z_isinstance ?z_int ?z_bool ?z_str
    (case a_look => k_is); (case l_look => k_is); (case c_look => k_is); (case k_look => k_is)
    (case a_looked => k_is); (case l_looked => k_is); (case c_looked => k_is); (case k_looked => k_is); (case w0_looked => k_is); (case w1_looked => k_is)
    (case a_l_same => k_is); (case l_l_same => k_is); (case c_l_same => k_is); (case k_l_same => k_is)
    (case a_l_draw => k_is); (case l_l_draw => k_is); (case c_l_draw => k_is); (case k_l_draw => k_is)
    (case a_l_pick => k_is); (case l_l_pick => k_is); (case c_l_pick => k_is); (case k_l_pick => k_is)
    (case a_l_mixed => k_is); (case l_l_mixed => k_is); (case c_l_mixed => k_is); (case k_l_mixed => k_is)
    (case a_l_drawn_worth => k_is); (case l_l_drawn_worth => k_is); (case c_l_drawn_worth => k_is); (case k_l_drawn_worth => k_is)
    (case a_l_straight => k_is); (case l_l_straight => k_is); (case c_l_straight => k_is); (case k_l_straight => k_is)
    (case a_l_worth => k_is); (case l_l_worth => k_is); (case c_l_worth => k_is); (case k_l_worth => k_is)
    (case a_l_look => k_is); (case l_l_look => k_is); (case c_l_look => k_is); (case k_l_look => k_is)
    (case a_l_drawn_window => k_is); (case l_l_drawn_window => k_is); (case c_l_drawn_window => k_is); (case k_l_drawn_window => k_is)
    (case a_law => k_is); (case l_law => k_is); (case c_law => k_is); (case k_law => k_is)
    (case z_len => k_is); (case z_list => k_is); (case z_tuple => k_is); (case z_range => k_is); (case z_zip => k_is); (case z_enumerate => k_is); (case z_abs => k_is); (case z_max => k_is); (case z_min => k_is); (case z_sum => k_is); (case z_all => k_is); (case z_any => k_is); (case z_sorted => k_is); (case z_isinstance => k_is); (case z_int => k_is); (case z_bool => k_is); (case z_str => k_is)

