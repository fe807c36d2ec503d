import PyProof.Rows.All
import Wide.All
import OpenK.AllK
import Wide.FinOn
import HandS.ForMost
import HandS.Walk
import HandS.Zip
import HandS.Conv
import HandS.Deep
import HandS.IsInst
import HandS.TupAny
import HandS.TupMul
import HandS.SortInts
import HandS.Flow
import HandS.DictComp
import HandS.Style
import HandS.Defaults
import KE.KUnpackStar
import HandS.Slots
import HandS.WordsDict
import PySem.Challenge.RW_searchduel_k05_worths_by_all_lines
set_option Elab.async false
set_option linter.all false
set_option maxRecDepth 100000
/-! Dz: data of any depth in a part of the heap; what an expression, a test, a walk comes to, over an environment of data. -/
namespace Dz
open PySem L2

/-! ### parts of the heap -/
theorem same_seqT {K : PySem.W.Frag} {H H' : Hp} {a : Addr} {xs : List V} (e : Same H H') (h : SqT K H a xs) : SqT K H' a xs := by
  rcases h with (h | ⟨o, h⟩) | h
  · exact .inl (.inl (e _ _ h))
  · exact .inl (.inr ⟨o, e _ _ h⟩)
  · exact .inr h
mutual
theorem dp_mono {K : PySem.W.Frag} {H H' : Hp} (e : Same H H') : ∀ (d : PyData) (v : V), Dp K H v d → Dp K H' v d
  | .none, _, h => by cases h; exact .non
  | .bool b, _, h => by cases h; exact .bl b
  | .int i, _, h => by cases h; exact .int i
  | .str x, _, h => by cases h; exact .str x
  | .list ds, _, h => by
    cases h with
    | lst hs ha => exact .lst (e.seq hs) (dpAll_mono e ds _ ha)
  | .tuple ds, _, h => by
    cases h with
    | tup hs ha => exact .tup (same_seqT e hs) (dpAll_mono e ds _ ha)
  | .dict _, _, h => by cases h
theorem dpAll_mono {K : PySem.W.Frag} {H H' : Hp} (e : Same H H') : ∀ (ds : List PyData) (vs : List V), DpAll K H vs ds → DpAll K H' vs ds
  | [], _, h => by cases h; exact .nil
  | d :: ds, _, h => by
    cases h with
    | cons h1 h2 => exact .cons (dp_mono e d _ h1) (dpAll_mono e ds _ h2)
end
theorem Dp_mono {K : PySem.W.Frag} {H H' : Hp} {v : V} {d : PyData} (h : Dp K H v d) (e : Same H H') : Dp K H' v d := dp_mono e d v h
theorem DpAll_mono {K : PySem.W.Frag} {H H' : Hp} {v : List V} {d : List PyData} (h : DpAll K H v d) (e : Same H H') : DpAll K H' v d := dpAll_mono e d v h
theorem DpAll_len {K : PySem.W.Frag} {H : Hp} : ∀ {vs : List V} {ds : List PyData}, DpAll K H vs ds → vs.length = ds.length
  | _, [], h => by cases h; rfl
  | _, d :: ds, h => by
    cases h with
    | cons h1 h2 => simp [DpAll_len h2]
theorem DpAll_get {K : PySem.W.Frag} {H : Hp} : ∀ {vs : List V} {ds : List PyData} {i : Nat} {d : PyData}, DpAll K H vs ds → ds[i]? = some d → ∃ v, vs[i]? = some v ∧ Dp K H v d
  | _, [], _, _, h, e => by simp at e
  | _, d :: ds, 0, _, h, e => by
    cases h with
    | cons h1 h2 => simp at e; subst e; exact ⟨_, rfl, h1⟩
  | _, d :: ds, i + 1, _, h, e => by
    cases h with
    | cons h1 h2 =>
      obtain ⟨v, a, b⟩ := DpAll_get (i := i) h2 (by simpa using e)
      exact ⟨v, by simpa using a, b⟩
theorem DpAll_get' {K : PySem.W.Frag} {H : Hp} : ∀ {vs : List V} {ds : List PyData} {i : Nat} {v : V}, DpAll K H vs ds → vs[i]? = some v → ∃ d, ds[i]? = some d ∧ Dp K H v d
  | _, [], _, _, h, e => by cases h; simp at e
  | _, d :: ds, 0, _, h, e => by
    cases h with
    | cons h1 h2 => simp at e; subst e; exact ⟨_, rfl, h1⟩
  | _, d :: ds, i + 1, _, h, e => by
    cases h with
    | cons h1 h2 =>
      obtain ⟨v, a, b⟩ := DpAll_get' (i := i) h2 (by simpa using e)
      exact ⟨v, by simpa using a, b⟩
theorem DpAll_app {K : PySem.W.Frag} {H : Hp} : ∀ {vs ws : List V} {ds es : List PyData}, DpAll K H vs ds → DpAll K H ws es → DpAll K H (vs ++ ws) (ds ++ es)
  | _, _, [], _, h, k => by cases h; exact k
  | _, _, d :: ds, _, h, k => by
    cases h with
    | cons h1 h2 => exact .cons h1 (DpAll_app h2 k)
theorem DpAll_take {K : PySem.W.Frag} {H : Hp} : ∀ {vs : List V} {ds : List PyData} (n : Nat), DpAll K H vs ds → DpAll K H (vs.take n) (ds.take n)
  | _, _, 0, _ => by simp; exact .nil
  | _, [], n + 1, h => by cases h; exact .nil
  | _, d :: ds, n + 1, h => by
    cases h with
    | cons h1 h2 => exact .cons h1 (DpAll_take n h2)
theorem DpAll_drop {K : PySem.W.Frag} {H : Hp} : ∀ {vs : List V} {ds : List PyData} (n : Nat), DpAll K H vs ds → DpAll K H (vs.drop n) (ds.drop n)
  | _, _, 0, h => by simpa using h
  | _, [], n + 1, h => by cases h; exact .nil
  | _, d :: ds, n + 1, h => by
    cases h with
    | cons h1 h2 => exact DpAll_drop n h2
theorem DpAll_set {K : PySem.W.Frag} {H : Hp} {v : V} {d : PyData} (hd : Dp K H v d) : ∀ {vs : List V} {ds : List PyData} (n : Nat), DpAll K H vs ds → DpAll K H (vs.set n v) (ds.set n d)
  | _, [], _, h => by cases h; exact .nil
  | _, _ :: ds, 0, h => by
    cases h with
    | cons h1 h2 => exact .cons hd h2
  | _, _ :: ds, n + 1, h => by
    cases h with
    | cons h1 h2 => exact .cons h1 (DpAll_set hd n h2)
theorem DpAll_erase {K : PySem.W.Frag} {H : Hp} : ∀ {vs : List V} {ds : List PyData} (n : Nat), DpAll K H vs ds → DpAll K H (vs.eraseIdx n) (ds.eraseIdx n)
  | _, [], _, h => by cases h; exact .nil
  | _, _ :: ds, 0, h => by
    cases h with
    | cons h1 h2 => exact h2
  | _, _ :: ds, n + 1, h => by
    cases h with
    | cons h1 h2 => exact .cons h1 (DpAll_erase n h2)
theorem DpAll_ints {K : PySem.W.Frag} {H : Hp} : ∀ ns : List Int, DpAll K H (ns.map V.int) (ns.map PyData.int)
  | [] => .nil
  | n :: ns => .cons (.int n) (DpAll_ints ns)
theorem ints_of {K : PySem.W.Frag} {H : Hp} : ∀ {vs : List V} {ns : List Int}, DpAll K H vs (ns.map PyData.int) → vs = ns.map V.int
  | _, [], h => by cases h; rfl
  | _, n :: ns, h => by
    cases h with
    | cons h1 h2 =>
      cases h1
      rw [ints_of (ns := ns) h2]
      rfl
theorem bools_of {K : PySem.W.Frag} {H : Hp} : ∀ {vs : List V} {ns : List Bool}, DpAll K H vs (ns.map PyData.bool) → vs = ns.map V.bl
  | _, [], h => by cases h; rfl
  | _, n :: ns, h => by
    cases h with
    | cons h1 h2 =>
      cases h1
      rw [bools_of (ns := ns) h2]
      rfl

/-- S, H ahead; S', H' behind: S grows within H', what of H lay out of S stays out of it, what is not in m stays -/
structure Grow (m : Addr → Prop) (S H S' H' : Hp) : Prop where
  s : Same S S'
  f : Same S' H'
  n : ∀ a, S a = none → H a ≠ none → S' a = none
  k : ∀ a o, ¬ m a → H a = some o → H' a = some o
  d : ∀ a, H a ≠ none → H' a ≠ none
def m0 : Addr → Prop := fun _ => False
theorem some_ne {α : Type} {x : Option α} {o : α} (h : x = some o) : x ≠ none := by rw [h]; exact fun z => nomatch z
theorem ne_some {α : Type} {x : Option α} (h : x ≠ none) : ∃ o, x = some o := by
  cases x with
  | none => exact absurd rfl h
  | some o => exact ⟨o, rfl⟩
section
variable {m m' : Addr → Prop} {S H S1 H1 S2 H2 : Hp} {p : Addr} {o : HO}
theorem Grow.refl (h : Same S H) : Grow m S H S H := ⟨Same.refl S, h, fun _ e _ => e, fun _ _ _ e => e, fun _ e => e⟩
theorem Grow.trans (a : Grow m S H S1 H1) (b : Grow m S1 H1 S2 H2) : Grow m S H S2 H2 :=
  ⟨a.s.trans b.s, b.f, fun x e q => b.n x (a.n x e q) (a.d x q), fun x u hm e => b.k x u hm (a.k x u hm e), fun x e => b.d x (a.d x e)⟩
theorem Grow.mono (a : Grow m S H S1 H1) (h : ∀ x, m x → m' x) : Grow m' S H S1 H1 := ⟨a.s, a.f, a.n, fun x u hm e => a.k x u (fun z => hm (h x z)) e, a.d⟩
theorem Grow.any (a : Grow m0 S H S1 H1) : Grow m S H S1 H1 := a.mono fun _ h => h.elim
theorem Grow.all (a : Grow m0 S H S1 H1) : Same H H1 := fun x u e => a.k x u (fun z => z) e
theorem same_up (h : S p = none) : Same S (upd S p o) := fun b x e => by rw [upd_ne (ne_of_none e h)]; exact e
theorem same_upup (h : Same S H) : Same (upd S p o) (upd H p o) := fun b x e => by
  by_cases hb : b = p
  · subst hb; rw [upd_same] at e ⊢; exact e
  · rw [upd_ne hb] at e ⊢; exact h b x e
theorem Grow.new (h : Same S H) (hp : H p = none) : Grow m S H (upd S p o) (upd H p o) := by
  have sp : S p = none := h.free hp
  refine ⟨same_up sp, same_upup h, fun a e q => ?_, fun a u _ e => ?_, fun a e => ?_⟩
  · have : a ≠ p := fun z => by subst z; exact q hp
    rw [upd_ne this]; exact e
  · rw [upd_ne (ne_of_none e hp)]; exact e
  · obtain ⟨u, hu⟩ := ne_some e
    rw [upd_ne (ne_of_none hu hp)]; exact e
/-- a new object that stays out of the part -/
theorem Grow.out (h : Same S H) (hp : H p = none) : Grow m S H S (upd H p o) :=
  ⟨Same.refl S, fun b x e => by rw [upd_ne (ne_of_none (h b x e) hp)]; exact h b x e, fun _ e _ => e, fun a u _ e => by rw [upd_ne (ne_of_none e hp)]; exact e, fun a e => by
    obtain ⟨u, hu⟩ := ne_some e
    rw [upd_ne (ne_of_none hu hp)]; exact e⟩
/-- an object in m is written -/
theorem Grow.put (h : Same S H) (hp : S p = none) (hm : m p) (hx : H p ≠ none) : Grow m S H S (upd H p o) :=
  ⟨Same.refl S, fun b x e => by rw [upd_ne (ne_of_none e hp)]; exact h b x e, fun _ e _ => e, fun a u hn e => by
    have : a ≠ p := fun z => by subst z; exact hn hm
    rw [upd_ne this]; exact e, fun a e => by
    by_cases z : a = p
    · subst z; rw [upd_same]; exact fun q => nomatch q
    · rw [upd_ne z]; exact e⟩
end

/-! ### environments -/
inductive Sl where
  | no
  | dat (d : PyData)
  | own (o : Addr) (ds : List PyData)
  | val (v : V)
  | town (t : Addr) (n : Nat)
  | dct (o : Addr) (kvs : List (Key × PyData))
def Sl.adr : Sl → Option Addr
  | .own o _ => some o
  | .town t _ => some t
  | .dct o _ => some o
  | _ => none
def muts (l : List Sl) : List Addr := l.filterMap Sl.adr
def KvD (K : PySem.W.Frag) (S : Hp) : List (Key × V) → List (Key × PyData) → Prop := Paired fun w k => w.1 = k.1 ∧ Dp K S w.2 k.2
/-- the town: ints, at most n of them, one at least where n is not 0 -/
def TownAt (H : Hp) (t : Addr) (n : Nat) : Prop := ∃ ns : List Int, H t = some (.lst (ns.map V.int)) ∧ ns.length ≤ n ∧ (0 < n → ns ≠ [])
def SlOk (K : PySem.W.Frag) (H0 S H : Hp) : Sl → Option V → Prop
  | .no, _ => True
  | .dat d, x => ∃ v, x = some v ∧ Dp K S v d
  | .own o ds, x => x = some (.ref o) ∧ H0 o = none ∧ S o = none ∧ ∃ xs, H o = some (.lst xs) ∧ DpAll K S xs ds
  | .val v, x => x = some v
  | .town t n, x => x = some (.ref t) ∧ S t = none ∧ TownAt H t n
  | .dct o kvs, x => x = some (.ref o) ∧ H0 o = none ∧ S o = none ∧ ∃ ws, H o = some (.dK ws) ∧ KvD K S ws kvs
structure Env (K : PySem.W.Frag) (H0 S H : Hp) (s : L2.St) (l : List Sl) : Prop where
  len : s.length = l.length
  ok : ∀ (i : Nat) (x : Sl), l[i]? = some x → ∃ v, s[i]? = some v ∧ SlOk K H0 S H x v
  nd : (muts l).Nodup
section
variable {K : PySem.W.Frag} {m : Addr → Prop} {H0 S H S1 H1 S2 H2 : Hp} {p : Addr} {o : HO} {s : L2.St} {l l' : List Sl} {i : Nat} {x y : Sl} {v : Option V}
theorem KvD.mono {ws : List (Key × V)} {kvs : List (Key × PyData)} (h : KvD K S ws kvs) (e : Same S S1) : KvD K S1 ws kvs := Paired.mapP h fun _ _ q => ⟨q.1, Dp_mono q.2 e⟩
theorem SlOk.go (h : SlOk K H0 S H x v) (hs : Same S S1) (hn : ∀ a, S a = none → H a ≠ none → S1 a = none) (hk : ∀ a u, x.adr = some a → H a = some u → H1 a = some u) : SlOk K H0 S1 H1 x v := by
  cases x with
  | no => trivial
  | dat d => obtain ⟨w, e, q⟩ := h; exact ⟨w, e, Dp_mono q hs⟩
  | own o ds =>
    obtain ⟨e, f, g, xs, a, b⟩ := h
    exact ⟨e, f, hn o g (some_ne a), xs, hk o _ rfl a, DpAll_mono b hs⟩
  | val w => exact h
  | town t n => obtain ⟨e, g, ns, a, b⟩ := h; exact ⟨e, hn t g (some_ne a), ns, hk t _ rfl a, b⟩
  | dct o kvs =>
    obtain ⟨e, f, g, ws, a, b⟩ := h
    exact ⟨e, f, hn o g (some_ne a), ws, hk o _ rfl a, b.mono hs⟩
theorem SlOk.there (h : SlOk K H0 S H x v) {a : Addr} (e : x.adr = some a) : H a ≠ none ∧ S a = none := by
  cases x with
  | no => cases e
  | dat d => cases e
  | own o ds => cases e; obtain ⟨_, _, g, xs, q, _⟩ := h; exact ⟨some_ne q, g⟩
  | val w => cases e
  | town t n => cases e; obtain ⟨_, g, xs, q, _⟩ := h; exact ⟨some_ne q, g⟩
  | dct o kvs => cases e; obtain ⟨_, _, g, xs, q, _⟩ := h; exact ⟨some_ne q, g⟩
theorem mem_muts {a : Addr} : a ∈ muts l ↔ ∃ (j : Nat) (z : Sl), l[j]? = some z ∧ z.adr = some a := by
  unfold muts
  rw [List.mem_filterMap]
  constructor
  · rintro ⟨z, hz, e⟩
    obtain ⟨j, hj⟩ := List.mem_iff_getElem?.mp hz
    exact ⟨j, z, hj, e⟩
  · rintro ⟨j, z, hj, e⟩
    exact ⟨z, List.mem_iff_getElem?.mpr ⟨j, hj⟩, e⟩
theorem Env.there (h : Env K H0 S H s l) {a : Addr} (e : a ∈ muts l) : H a ≠ none ∧ S a = none := by
  obtain ⟨j, z, hj, q⟩ := mem_muts.mp e
  obtain ⟨w, _, k⟩ := h.ok j z hj
  exact k.there q
theorem Env.go (h : Env K H0 S H s l) (hs : Same S S1) (hn : ∀ a, S a = none → H a ≠ none → S1 a = none) (hk : ∀ a u, a ∈ muts l → H a = some u → H1 a = some u) : Env K H0 S1 H1 s l :=
  ⟨h.len, fun i x e => by
    obtain ⟨w, a, b⟩ := h.ok i x e
    exact ⟨w, a, b.go hs hn fun c u q => hk c u (mem_muts.mpr ⟨i, x, e, q⟩)⟩, h.nd⟩
theorem Env.grow (h : Env K H0 S H s l) (g : Grow m0 S H S1 H1) : Env K H0 S1 H1 s l := h.go g.s g.n fun a u _ => g.k a u (fun z => z)
theorem nodup_eq {α : Type} {ys : List Addr} {f : α → Option Addr} : ∀ {zs : List α}, (zs.filterMap f).Nodup → ∀ {i j : Nat} {x y : α} {a : Addr}, zs[i]? = some x → zs[j]? = some y → f x = some a → f y = some a → i = j
  | [], _, i, j, x, y, a, h, _, _, _ => by simp at h
  | z :: zs, hn, i, j, x, y, a, h1, h2, e1, e2 => by
    cases i with
    | zero =>
      cases j with
      | zero => rfl
      | succ j =>
        simp at h1 h2
        subst h1
        rw [List.filterMap_cons, e1] at hn
        have : a ∈ zs.filterMap f := List.mem_filterMap.mpr ⟨y, List.mem_of_getElem? h2, e2⟩
        exact absurd this (List.nodup_cons.mp hn).1
    | succ i =>
      cases j with
      | zero =>
        simp at h1 h2
        subst h2
        rw [List.filterMap_cons, e2] at hn
        have : a ∈ zs.filterMap f := List.mem_filterMap.mpr ⟨x, List.mem_of_getElem? h1, e1⟩
        exact absurd this (List.nodup_cons.mp hn).1
      | succ j =>
        simp at h1 h2
        have hn' : (zs.filterMap f).Nodup := by
          rw [List.filterMap_cons] at hn
          split at hn
          · exact hn
          · exact (List.nodup_cons.mp hn).2
        rw [nodup_eq (ys := ys) hn' h1 h2 e1 e2]
theorem muts_set_sub : ∀ (l : List Sl) (i : Nat) (y : Sl), y.adr = none → (muts (l.set i y)).Sublist (muts l)
  | [], _, _, _ => List.Sublist.refl _
  | z :: l, 0, y, h => by
    show (List.filterMap Sl.adr (y :: l)).Sublist (List.filterMap Sl.adr (z :: l))
    rw [List.filterMap_cons, h, List.filterMap_cons]
    show (List.filterMap Sl.adr l).Sublist _
    cases z.adr with
    | none => exact List.Sublist.refl _
    | some b => exact List.sublist_cons_self _ _
  | z :: l, i + 1, y, h => by
    show (List.filterMap Sl.adr (z :: l.set i y)).Sublist (List.filterMap Sl.adr (z :: l))
    rw [List.filterMap_cons, List.filterMap_cons]
    have ih := muts_set_sub l i y h
    split
    · exact ih
    · exact ih.cons₂ _
theorem muts_set_same : ∀ (l : List Sl) (i : Nat) (x y : Sl), l[i]? = some x → y.adr = x.adr → muts (l.set i y) = muts l
  | [], _, _, _, h, _ => by simp at h
  | z :: l, 0, x, y, h, e => by
    simp at h
    subst h
    show List.filterMap Sl.adr (y :: l) = List.filterMap Sl.adr (z :: l)
    rw [List.filterMap_cons, List.filterMap_cons, e]
  | z :: l, i + 1, x, y, h, e => by
    simp at h
    show List.filterMap Sl.adr (z :: l.set i y) = List.filterMap Sl.adr (z :: l)
    rw [List.filterMap_cons, List.filterMap_cons]
    have ih : List.filterMap Sl.adr (l.set i y) = List.filterMap Sl.adr l := muts_set_same l i x y h e
    rw [ih]
theorem muts_set_new : ∀ (l : List Sl) (i : Nat) (y : Sl) (a : Addr), y.adr = some a → a ∉ muts l → (muts l).Nodup → (muts (l.set i y)).Nodup
  | [], _, _, _, _, _, h => h
  | z :: l, 0, y, a, e, hn, h => by
    show (List.filterMap Sl.adr (y :: l)).Nodup
    rw [List.filterMap_cons, e]
    have h' : (List.filterMap Sl.adr (z :: l)).Nodup := h
    have hn' : a ∉ List.filterMap Sl.adr (z :: l) := hn
    rw [List.filterMap_cons] at h' hn'
    split at h'
    · rename_i hz
      rw [hz] at hn'
      exact List.nodup_cons.mpr ⟨hn', h'⟩
    · rename_i b hz
      rw [hz] at hn'
      exact List.nodup_cons.mpr ⟨fun q => hn' (List.mem_cons_of_mem _ q), (List.nodup_cons.mp h').2⟩
  | z :: l, i + 1, y, a, e, hn, h => by
    show (List.filterMap Sl.adr (z :: l.set i y)).Nodup
    have h' : (List.filterMap Sl.adr (z :: l)).Nodup := h
    have hn' : a ∉ List.filterMap Sl.adr (z :: l) := hn
    rw [List.filterMap_cons] at h' hn' ⊢
    split at h'
    · rename_i hz
      rw [hz] at hn'
      exact muts_set_new l i y a e hn' h'
    · rename_i b hz
      rw [hz] at hn'
      have ih : (muts (l.set i y)).Nodup := muts_set_new l i y a e (fun q => hn' (List.mem_cons_of_mem _ q)) (List.nodup_cons.mp h').2
      refine List.nodup_cons.mpr ⟨fun q => ?_, ih⟩
      obtain ⟨j, w, hj, hw⟩ := mem_muts.mp (show b ∈ muts (l.set i y) from q)
      rw [List.getElem?_set] at hj
      split at hj
      · split at hj
        · cases hj
          rw [e] at hw
          cases hw
          exact hn' List.mem_cons_self
        · cases hj
      · exact (List.nodup_cons.mp h').1 (mem_muts.mpr ⟨j, w, hj, hw⟩)
/-- a slot gets a datum, a value, nothing -/
theorem Env.set (h : Env K H0 S H s l) {w : Option V} (hy : y.adr = none) (ok : SlOk K H0 S H y w) : Env K H0 S H (s.set i w) (l.set i y) :=
  ⟨by rw [List.length_set, List.length_set]; exact h.len, fun j z e => by
    by_cases hij : i = j
    · subst hij
      have hl : i < l.length := by
        have := (List.getElem?_eq_some_iff.mp e).1
        rwa [List.length_set] at this
      rw [List.getElem?_set_self hl] at e
      cases e
      exact ⟨w, List.getElem?_set_self (by rw [h.len]; exact hl), ok⟩
    · rw [List.getElem?_set_ne hij] at e ⊢
      exact h.ok j z e, (muts_set_sub l i y hy).nodup h.nd⟩
theorem Env.dat (h : Env K H0 S H s l) {w : V} {d : PyData} (q : Dp K S w d) : Env K H0 S H (s.set i (some w)) (l.set i (.dat d)) := h.set rfl ⟨w, rfl, q⟩
theorem Env.val (h : Env K H0 S H s l) {w : V} : Env K H0 S H (s.set i (some w)) (l.set i (.val w)) := h.set rfl rfl
theorem Env.forget (h : Env K H0 S H s l) {w : Option V} : Env K H0 S H (s.set i w) (l.set i .no) := h.set rfl trivial
/-- a slot gets a new object of its own -/
theorem Env.fresh (h : Env K H0 S H s l) {w : V} {a : Addr} (hy : y.adr = some a) (ha : a ∉ muts l) (ok : SlOk K H0 S H y (some w)) : Env K H0 S H (s.set i (some w)) (l.set i y) :=
  ⟨by rw [List.length_set, List.length_set]; exact h.len, fun j z e => by
    by_cases hij : i = j
    · subst hij
      have hl : i < l.length := by
        have := (List.getElem?_eq_some_iff.mp e).1
        rwa [List.length_set] at this
      rw [List.getElem?_set_self hl] at e
      cases e
      exact ⟨some w, List.getElem?_set_self (by rw [h.len]; exact hl), ok⟩
    · rw [List.getElem?_set_ne hij] at e ⊢
      exact h.ok j z e, muts_set_new l i y a hy ha h.nd⟩
/-- the object of a slot is changed -/
theorem Env.put (h : Env K H0 S H s l) {a : Addr} (hi : l[i]? = some x) (hx : x.adr = some a) (hy : y.adr = some a) (hs : Same S S1) (hn : ∀ b, S b = none → H b ≠ none → S1 b = none) (hk : ∀ b u, b ≠ a → H b = some u → H1 b = some u)
    (ok : ∀ v, SlOk K H0 S H x v → SlOk K H0 S1 H1 y v) : Env K H0 S1 H1 s (l.set i y) :=
  ⟨by rw [List.length_set]; exact h.len, fun j z e => by
    by_cases hij : i = j
    · subst hij
      have hl : i < l.length := (List.getElem?_eq_some_iff.mp hi).1
      rw [List.getElem?_set_self hl] at e
      cases e
      obtain ⟨v, q, r⟩ := h.ok i x hi
      exact ⟨v, q, ok v r⟩
    · rw [List.getElem?_set_ne hij] at e
      obtain ⟨v, q, r⟩ := h.ok j z e
      refine ⟨v, q, r.go hs hn fun b u hb => hk b u fun hba => ?_⟩
      subst hba
      exact hij (nodup_eq (ys := []) h.nd hi e hx hb), by rw [muts_set_same l i x y hi (hy.trans hx.symm)]; exact h.nd⟩
end
end Dz

namespace Dz
open PySem L2

/-! ### what comes to what, over an environment of data -/
def rLenK (K : PySem.W.Frag) : List V → Hp → VK → Prop := fun xs H Q => ∃ p ys, xs = [.ref p] ∧ (SqL K H p ys ∨ SqT K H p ys) ∧ Q (.int ys.length) H
def rListK (K : PySem.W.Frag) : List V → Hp → VK → Prop := fun xs H Q => ∃ p ys, xs = [.ref p] ∧ (SqL K H p ys ∨ SqT K H p ys) ∧ ∀ l, H l = none → Q (.ref l) (upd H l (.lst ys))
def rTupleK (K : PySem.W.Frag) : List V → Hp → VK → Prop := fun xs H Q => ∃ p ys, xs = [.ref p] ∧ ((SqL K H p ys ∧ ∀ l, H l = none → Q (.ref l) (upd H l (.tup ys))) ∨ (SqT K H p ys ∧ Q (.ref p) H))
def Ev (K : PySem.W.Frag) (te : TE) (l : List Sl) (d : PyData) : Prop := ∀ H0 S H s, Env K H0 S H s l → Same S H → ∀ Q : VK, (∀ v S' H', Grow m0 S H S' H' → Dp K S' v d → Q v H') → te s H Q
def EvT (K : PySem.W.Frag) (tt : TT) (l : List Sl) (b : Bool) : Prop := ∀ H0 S H s, Env K H0 S H s l → Same S H → ∀ Q : Bool → Hp → Prop, (∀ S' H', Grow m0 S H S' H' → Q b H') → tt s H Q
def EvA (K : PySem.W.Frag) (ta : TA) (l : List Sl) (ds : List PyData) : Prop := ∀ H0 S H s, Env K H0 S H s l → Same S H → ∀ Q : List V → Hp → Prop, (∀ vs S' H', Grow m0 S H S' H' → DpAll K S' vs ds → Q vs H') → ta s H Q
def EvO (K : PySem.W.Frag) (to : TO) (l : List Sl) (o : Option Int) : Prop := ∀ H0 S H s, Env K H0 S H s l → Same S H → ∀ Q : Option Int → Hp → Prop, (∀ S' H', Grow m0 S H S' H' → Q o H') → to s H Q
def RD (K : PySem.W.Frag) (r : R2) (a b c : PyData) : Prop := ∀ x y S H (Q : VK), Same S H → Dp K S x a → Dp K S y b → (∀ v S' H', Grow m0 S H S' H' → Dp K S' v c → Q v H') → r x y H Q
def RUD (K : PySem.W.Frag) (r : V → Hp → VK → Prop) (a c : PyData) : Prop := ∀ x S H (Q : VK), Same S H → Dp K S x a → (∀ v S' H', Grow m0 S H S' H' → Dp K S' v c → Q v H') → r x H Q
def RCD (K : PySem.W.Frag) (r : List V → Hp → VK → Prop) (as : List PyData) (c : PyData) : Prop := ∀ vs S H (Q : VK), Same S H → DpAll K S vs as → (∀ v S' H', Grow m0 S H S' H' → Dp K S' v c → Q v H') → r vs H Q
def SpD (K : PySem.W.Frag) (sp : Sp) (as : List PyData) (c : PyData) : Prop := ∀ vs S H (Q : VK) (E : XK), Same S H → DpAll K S vs as → (∀ v S' H', Grow m0 S H S' H' → Dp K S' v c → Q v H') → sp vs H Q E
section
variable {K : PySem.W.Frag} {l : List Sl} {ta tb te : TE} {t u : TT} {a b c d : PyData} {r : R2}
theorem ev_var {i : Nat} (h : l[i]? = some (.dat d)) : Ev K (tVar i) l d := fun H0 S H s e hs Q q => by
  obtain ⟨v, hv, w, rfl, hd⟩ := e.ok i _ h
  exact ⟨w, hv, q w S H (Grow.refl hs) hd⟩
theorem ev_int {i : Int} : Ev K (tC (.int i)) l (.int i) := fun H0 S H s e hs Q q => q _ S H (Grow.refl hs) (.int i)
theorem ev_bl {i : Bool} : Ev K (tC (.bl i)) l (.bool i) := fun H0 S H s e hs Q q => q _ S H (Grow.refl hs) (.bl i)
theorem ev_str {i : Str} : Ev K (tC (.str i)) l (.str i) := fun H0 S H s e hs Q q => q _ S H (Grow.refl hs) (.str i)
theorem ev_non : Ev K (tC .non) l .none := fun H0 S H s e hs Q q => q _ S H (Grow.refl hs) .non
theorem ev_op (ha : Ev K ta l a) (hb : Ev K tb l b) (hr : RD K r a b c) : Ev K (tOp r ta tb) l c := fun H0 S H s e hs Q q =>
  ha H0 S H s e hs _ fun x S1 H1 g1 d1 => hb H0 S1 H1 s (e.grow g1) g1.f _ fun y S2 H2 g2 d2 => hr x y S2 H2 Q g2.f (Dp_mono d1 g2.s) d2 fun v S3 H3 g3 d3 => q v S3 H3 ((g1.trans g2).trans g3) d3
theorem ev_un {r : V → Hp → VK → Prop} (ha : Ev K ta l a) (hr : RUD K r a c) : Ev K (tUn r ta) l c := fun H0 S H s e hs Q q =>
  ha H0 S H s e hs _ fun x S1 H1 g1 d1 => hr x S1 H1 Q g1.f d1 fun v S3 H3 g3 d3 => q v S3 H3 (g1.trans g3) d3
theorem ea_nil : EvA K tNil l [] := fun H0 S H s e hs Q q => q [] S H (Grow.refl hs) .nil
theorem ea_cons {tr : TA} {ds : List PyData} (ha : Ev K ta l a) (hr : EvA K tr l ds) : EvA K (tCons ta tr) l (a :: ds) := fun H0 S H s e hs Q q =>
  ha H0 S H s e hs _ fun x S1 H1 g1 d1 => hr H0 S1 H1 s (e.grow g1) g1.f _ fun ys S2 H2 g2 d2 => q _ S2 H2 (g1.trans g2) (.cons (Dp_mono d1 g2.s) d2)
theorem ev_cb {r : List V → Hp → VK → Prop} {tr : TA} {ds : List PyData} (ha : EvA K tr l ds) (hr : RCD K r ds c) : Ev K (tCB r tr) l c := fun H0 S H s e hs Q q =>
  ha H0 S H s e hs _ fun x S1 H1 g1 d1 => hr x S1 H1 Q g1.f d1 fun v S3 H3 g3 d3 => q v S3 H3 (g1.trans g3) d3
theorem ev_call {sp : Sp} {E : XK} {tr : TA} {ds : List PyData} (ha : EvA K tr l ds) (hr : SpD K sp ds c) : Ev K (tCall sp [] E tr) l c := fun H0 S H s e hs Q q =>
  ha H0 S H s e hs _ fun x S1 H1 g1 d1 => hr (x ++ []) S1 H1 Q E g1.f (by rw [List.append_nil]; exact d1) fun v S3 H3 g3 d3 => q v S3 H3 (g1.trans g3) d3
theorem szl {n : Nat} (h : n ≤ 100000) : n ≤ sizeLine := Nat.le_trans h (by decide)
theorem szt {n : Nat} (h : n < 100000) : n < sizeLine := Nat.lt_of_lt_of_le h (by decide)
theorem ev_tup {tr : TA} {ds : List PyData} (ha : EvA K tr l ds) (hl : ds.length ≤ 100000) : Ev K (tTup tr) l (.tuple ds) := fun H0 S H s e hs Q q =>
  ha H0 S H s e hs _ fun xs S1 H1 g1 d1 => ⟨by rw [DpAll_len d1]; exact szl hl, fun p hp =>
    have g2 : Grow m0 S1 H1 (upd S1 p (.tup xs)) (upd H1 p (.tup xs)) := Grow.new g1.f hp
    q _ _ _ (g1.trans g2) (.tup (.inl (.inl upd_same)) (DpAll_mono d1 g2.s))⟩
theorem ev_lst {tr : TA} {ds : List PyData} (ha : EvA K tr l ds) (hl : ds.length ≤ 100000) : Ev K (tLst tr) l (.list ds) := fun H0 S H s e hs Q q =>
  ha H0 S H s e hs _ fun xs S1 H1 g1 d1 => ⟨by rw [DpAll_len d1]; exact szl hl, fun p hp =>
    have g2 : Grow m0 S1 H1 (upd S1 p (.lst xs)) (upd H1 p (.lst xs)) := Grow.new g1.f hp
    q _ _ _ (g1.trans g2) (.lst (.inl (.inl upd_same)) (DpAll_mono d1 g2.s))⟩
theorem ev_if {k : Bool} (h : EvT K t l k) (h1 : k = true → Ev K ta l a) (h2 : k = false → Ev K tb l b) : Ev K (tIf t ta tb) l (if k then a else b) := fun H0 S H s e hs Q q =>
  h H0 S H s e hs _ fun S1 H1 g1 => by
    cases k with
    | true =>
      show ta s H1 Q
      exact h1 rfl H0 S1 H1 s (e.grow g1) g1.f _ fun v S2 H2 g2 d2 => q v S2 H2 (g1.trans g2) d2
    | false =>
      show tb s H1 Q
      exact h2 rfl H0 S1 H1 s (e.grow g1) g1.f _ fun v S2 H2 g2 d2 => q v S2 H2 (g1.trans g2) d2
theorem ev_is (h : Ev K te l a) (e : a = b) : Ev K te l b := e ▸ h
theorem et_is {i j : Bool} (h : EvT K t l i) (e : i = j) : EvT K t l j := e ▸ h
theorem et_test {k : Bool} (h : Ev K te l (.bool k)) : EvT K (tTest te) l k := fun H0 S H s e hs Q q =>
  h H0 S H s e hs _ fun v S1 H1 g1 d1 => by cases d1; exact ⟨k, rfl, q S1 H1 g1⟩
theorem et_B {k : Bool} (h : Ev K te l (.bool k)) : EvT K (tB te) l k := fun H0 S H s e hs Q q =>
  h H0 S H s e hs _ fun v S1 H1 g1 d1 => by cases d1; exact ⟨k, rfl, q S1 H1 g1⟩
theorem et_not {k : Bool} (h : EvT K t l k) : EvT K (tNot t) l (!k) := fun H0 S H s e hs Q q => h H0 S H s e hs _ fun S1 H1 g1 => q S1 H1 g1
theorem et_and {i j : Bool} (h1 : EvT K t l i) (h2 : i = true → EvT K u l j) : EvT K (tAnd t u) l (i && j) := fun H0 S H s e hs Q q =>
  h1 H0 S H s e hs _ fun S1 H1 g1 => by
    cases i with
    | true =>
      show u s H1 Q
      exact h2 rfl H0 S1 H1 s (e.grow g1) g1.f _ fun S2 H2 g2 => q S2 H2 (g1.trans g2)
    | false =>
      show Q false H1
      exact q S1 H1 g1
theorem et_or {i j : Bool} (h1 : EvT K t l i) (h2 : i = false → EvT K u l j) : EvT K (tOr t u) l (i || j) := fun H0 S H s e hs Q q =>
  h1 H0 S H s e hs _ fun S1 H1 g1 => by
    cases i with
    | false =>
      show u s H1 Q
      exact h2 rfl H0 S1 H1 s (e.grow g1) g1.f _ fun S2 H2 g2 => q S2 H2 (g1.trans g2)
    | true =>
      show Q true H1
      exact q S1 H1 g1
theorem et_yes : EvT K tYes l true := fun H0 S H s e hs Q q => q S H (Grow.refl hs)
theorem ev_andV {i j : Bool} (h1 : Ev K ta l (.bool i)) (h2 : i = true → Ev K tb l (.bool j)) : Ev K (tAndV ta tb) l (.bool (i && j)) := fun H0 S H s e hs Q q =>
  h1 H0 S H s e hs _ fun v S1 H1 g1 d1 => by
    cases d1
    refine ⟨i, rfl, ?_⟩
    cases i with
    | true =>
      show tb s H1 Q
      exact h2 rfl H0 S1 H1 s (e.grow g1) g1.f _ fun w S2 H2 g2 d2 => q w S2 H2 (g1.trans g2) d2
    | false =>
      show Q (.bl false) H1
      exact q _ S1 H1 g1 (.bl false)
theorem ev_orV {i j : Bool} (h1 : Ev K ta l (.bool i)) (h2 : i = false → Ev K tb l (.bool j)) : Ev K (tOrV ta tb) l (.bool (i || j)) := fun H0 S H s e hs Q q =>
  h1 H0 S H s e hs _ fun v S1 H1 g1 d1 => by
    cases d1
    refine ⟨i, rfl, ?_⟩
    cases i with
    | false =>
      show tb s H1 Q
      exact h2 rfl H0 S1 H1 s (e.grow g1) g1.f _ fun w S2 H2 g2 d2 => q w S2 H2 (g1.trans g2) d2
    | true =>
      show Q (.bl true) H1
      exact q _ S1 H1 g1 (.bl true)
theorem ev_notV {i : Bool} (h1 : Ev K ta l (.bool i)) : Ev K (tNotV ta) l (.bool (!i)) := fun H0 S H s e hs Q q =>
  h1 H0 S H s e hs _ fun v S1 H1 g1 d1 => by
    cases d1
    exact ⟨i, rfl, q _ S1 H1 g1 (.bl _)⟩
/-- truth of data -/
def truD : PyData → Bool
  | .none => false
  | .bool b => b
  | .int i => i != 0
  | .str y => (y.length : Int) != 0
  | .list ds => !ds.isEmpty
  | .tuple ds => !ds.isEmpty
  | .dict _ => false
theorem isEmpty_dp {S : Hp} {vs : List V} {ds : List PyData} (h : DpAll K S vs ds) : ds.isEmpty = vs.isEmpty := by
  cases h <;> rfl
theorem truV_of {S H : Hp} {v : V} (hs : Same S H) (h : Dp K S v d) (hz : ∀ y, d = .str y → y.length ≤ 100000) : TruV K v H (truD d) := by
  cases h with
  | non => rfl
  | bl b => rfl
  | int i => rfl
  | str x => exact ⟨szl (hz x rfl), rfl⟩
  | lst a b => exact .inl ⟨_, hs.seq a, by show (!_) = !_; rw [isEmpty_dp b]⟩
  | tup a b => exact .inr (.inl ⟨_, same_seqT hs a, by show (!_) = !_; rw [isEmpty_dp b]⟩)
theorem et_truth (h : Ev K ta l a) (hz : ∀ y, a = .str y → y.length ≤ 100000) : EvT K (fun σ H Q => ta σ H fun x H' => ∃ k, TruV K x H' k ∧ Q k H') l (truD a) := fun H0 S H s e hs Q q =>
  h H0 S H s e hs _ fun v S1 H1 g1 d1 => ⟨_, truV_of g1.f d1 hz, q S1 H1 g1⟩
theorem ev_notT (h : Ev K ta l a) (hz : ∀ y, a = .str y → y.length ≤ 100000) : Ev K (tNotT K ta) l (.bool (!truD a)) := fun H0 S H s e hs Q q =>
  h H0 S H s e hs _ fun v S1 H1 g1 d1 => ⟨_, truV_of g1.f d1 hz, q _ S1 H1 g1 (.bl _)⟩
theorem ev_orT (h : Ev K ta l a) (h2 : truD a = false → Ev K tb l b) (hz : ∀ y, a = .str y → y.length ≤ 100000) : Ev K (tOrT K ta tb) l (if truD a then a else b) := fun H0 S H s e hs Q q =>
  h H0 S H s e hs _ fun v S1 H1 g1 d1 => ⟨_, truV_of g1.f d1 hz, by
    cases hk : truD a with
    | true => rw [if_pos rfl]; exact q _ S1 H1 g1 (by rw [hk]; exact d1)
    | false => rw [if_neg Bool.false_ne_true]; exact h2 hk H0 S1 H1 s (e.grow g1) g1.f _ fun w S2 H2 g2 d2 => q w S2 H2 (g1.trans g2) (by rw [hk]; exact d2)⟩
theorem ev_andT (h : Ev K ta l a) (h2 : truD a = true → Ev K tb l b) (hz : ∀ y, a = .str y → y.length ≤ 100000) : Ev K (tAndT K ta tb) l (if truD a then b else a) := fun H0 S H s e hs Q q =>
  h H0 S H s e hs _ fun v S1 H1 g1 d1 => ⟨_, truV_of g1.f d1 hz, by
    cases hk : truD a with
    | false => rw [if_neg Bool.false_ne_true]; exact q _ S1 H1 g1 (by rw [hk]; exact d1)
    | true => rw [if_pos rfl]; exact h2 hk H0 S1 H1 s (e.grow g1) g1.f _ fun w S2 H2 g2 d2 => q w S2 H2 (g1.trans g2) (by rw [hk]; exact d2)⟩
/-- is None, is not None -/
def isN : PyData → Bool
  | .none => true
  | _ => false
theorem dp_isN {S : Hp} {v : V} (h : Dp K S v d) : decide (v = .non) = isN d := by
  cases h <;> simp [isN]
theorem ev_isN (h : Ev K ta l a) : Ev K (tIsN ta) l (.bool (isN a)) := fun H0 S H s e hs Q q =>
  h H0 S H s e hs _ fun v S1 H1 g1 d1 => q _ S1 H1 g1 (by rw [dp_isN d1]; exact .bl _)
theorem ev_notN (h : Ev K ta l a) : Ev K (tNotN ta) l (.bool (!isN a)) := fun H0 S H s e hs Q q =>
  h H0 S H s e hs _ fun v S1 H1 g1 d1 => q _ S1 H1 g1 (by rw [dp_isN d1]; exact .bl _)
theorem ev_chain {r r' : R2} {tc : TE} {i j : Bool} (ha : Ev K ta l a) (hb : Ev K tb l b) (h1 : RD K r a b (.bool i)) (hc : i = true → Ev K tc l c) (h2 : i = true → RD K r' b c (.bool j)) : Ev K (tChain r r' ta tb tc) l (.bool (i && j)) := fun H0 S H s e hs Q q =>
  ha H0 S H s e hs _ fun x S1 H1 g1 d1 => hb H0 S1 H1 s (e.grow g1) g1.f _ fun y S2 H2 g2 d2 => h1 x y S2 H2 _ g2.f (Dp_mono d1 g2.s) d2 fun v S3 H3 g3 d3 => by
    cases d3
    refine ⟨i, rfl, ?_⟩
    cases i with
    | false => rw [if_neg Bool.false_ne_true]; exact q _ S3 H3 ((g1.trans g2).trans g3) (.bl _)
    | true =>
      rw [if_pos rfl]
      refine hc rfl H0 S3 H3 s (e.grow ((g1.trans g2).trans g3)) g3.f _ fun w S4 H4 g4 d4 => ?_
      exact h2 rfl y w S4 H4 Q g4.f (Dp_mono d2 (g3.s.trans g4.s)) d4 fun z S5 H5 g5 d5 => q z S5 H5 ((((g1.trans g2).trans g3).trans g4).trans g5) d5
/-! operators on values -/
theorem rd_I0 {g : Int → Int → V} {i j : Int} (h : ∀ S, Dp K S (g i j) c) : RD K (rI0 g) (.int i) (.int j) c := fun x y S H Q hs hx hy q => by
  cases hx; cases hy
  exact ⟨i, j, rfl, rfl, q _ S H (Grow.refl hs) (h S)⟩
theorem rd_I {C : Int → Int → Prop} {g : Int → Int → V} {i j : Int} (hc : C i j) (h : ∀ S, Dp K S (g i j) c) : RD K (rI C g) (.int i) (.int j) c := fun x y S H Q hs hx hy q => by
  cases hx; cases hy
  exact ⟨i, j, rfl, rfl, hc, q _ S H (Grow.refl hs) (h S)⟩
theorem rud_U {g : Int → V} {i : Int} (h : ∀ S, Dp K S (g i) c) : RUD K (rU g) (.int i) c := fun x S H Q hs hx q => by
  cases hx
  exact ⟨i, rfl, q _ S H (Grow.refl hs) (h S)⟩
/-- a scalar as a value -/
def scV : PyData → Option V
  | .none => some .non
  | .bool b => some (.bl b)
  | .int i => some (.int i)
  | .str x => some (.str x)
  | _ => none
theorem scV_dp {S : Hp} {v w : V} (h : scV d = some w) (q : Dp K S v d) : v = w := by
  cases q <;> first | (cases h; rfl) | cases h
theorem rd_eq {x y : V} (h1 : scV a = some x) (h2 : scV b = some y) (h : scal x y = true) : RD K rEq a b (.bool (decide (x = y))) := fun x' y' S H Q hs hx hy q => by
  rw [scV_dp h1 hx, scV_dp h2 hy]
  exact ⟨h, q _ S H (Grow.refl hs) (.bl _)⟩
theorem rd_ne {x y : V} (h1 : scV a = some x) (h2 : scV b = some y) (h : scal x y = true) : RD K rNe a b (.bool (!decide (x = y))) := fun x' y' S H Q hs hx hy q => by
  rw [scV_dp h1 hx, scV_dp h2 hy]
  exact ⟨h, q _ S H (Grow.refl hs) (.bl _)⟩
theorem rd_eqI {i j : Int} : RD K rEq (.int i) (.int j) (.bool (decide (i = j))) := by
  have := rd_eq (K := K) (a := .int i) (b := .int j) rfl rfl rfl
  simpa using this
theorem rd_neI {i j : Int} : RD K rNe (.int i) (.int j) (.bool (!decide (i = j))) := by
  have := rd_ne (K := K) (a := .int i) (b := .int j) rfl rfl rfl
  simpa using this
theorem rd_eqS {i j : Str} : RD K rEq (.str i) (.str j) (.bool (decide (i = j))) := by
  have := rd_eq (K := K) (a := .str i) (b := .str j) rfl rfl rfl
  simpa using this
theorem rd_neS {i j : Str} : RD K rNe (.str i) (.str j) (.bool (!decide (i = j))) := by
  have := rd_ne (K := K) (a := .str i) (b := .str j) rfl rfl rfl
  simpa using this
theorem rd_eqIS {i : Int} {j : Str} : RD K rEq (.int i) (.str j) (.bool false) := by
  have := rd_eq (K := K) (a := .int i) (b := .str j) rfl rfl rfl
  simpa using this
theorem rd_neIS {i : Int} {j : Str} : RD K rNe (.int i) (.str j) (.bool true) := by
  have := rd_ne (K := K) (a := .int i) (b := .str j) rfl rfl rfl
  simpa using this
theorem rd_eqSI {i : Int} {j : Str} : RD K rEq (.str j) (.int i) (.bool false) := by
  have := rd_eq (K := K) (a := .str j) (b := .int i) rfl rfl rfl
  simpa using this
theorem rd_neSI {i : Int} {j : Str} : RD K rNe (.str j) (.int i) (.bool true) := by
  have := rd_ne (K := K) (a := .str j) (b := .int i) rfl rfl rfl
  simpa using this
theorem rd_eqB {i j : Bool} : RD K rEq (.bool i) (.bool j) (.bool (decide (i = j))) := by
  have := rd_eq (K := K) (a := .bool i) (b := .bool j) rfl rfl rfl
  simpa using this
theorem rd_neB {i j : Bool} : RD K rNe (.bool i) (.bool j) (.bool (!decide (i = j))) := by
  have := rd_ne (K := K) (a := .bool i) (b := .bool j) rfl rfl rfl
  simpa using this
/-- subscripts -/
theorem atI_map {S : Hp} {xs : List V} {ds : List PyData} {i : Int} (h : DpAll K S xs ds) (e : atI ds i = some d) : ∃ v, atI xs i = some v ∧ Dp K S v d := by
  unfold atI at e ⊢
  rw [DpAll_len h]
  cases hj : ixN ds.length i with
  | none => rw [hj] at e; cases e
  | some j =>
    rw [hj] at e
    exact DpAll_get h e
theorem rd_ixT {ds : List PyData} {i : Int} (e : atI ds i = some d) : RD K (rIx K) (.tuple ds) (.int i) d := fun x y S H Q hs hx hy q => by
  cases hy
  cases hx with
  | tup h1 h2 =>
    obtain ⟨v, hv, hd⟩ := atI_map h2 e
    exact .inr (.inl ⟨_, _, i, v, rfl, rfl, same_seqT hs h1, hv, q v S H (Grow.refl hs) hd⟩)
theorem rd_ixL {ds : List PyData} {i : Int} (e : atI ds i = some d) : RD K (rIx K) (.list ds) (.int i) d := fun x y S H Q hs hx hy q => by
  cases hy
  cases hx with
  | lst h1 h2 =>
    obtain ⟨v, hv, hd⟩ := atI_map h2 e
    exact .inl ⟨_, _, i, v, rfl, rfl, hs.seq h1, hv, q v S H (Grow.refl hs) hd⟩
/-- in, not in: flat items -/
def flatD : PyData → Bool
  | .none => true
  | .bool _ => true
  | .int _ => true
  | .str _ => true
  | _ => false
def eqF : PyData → PyData → Bool
  | .none, .none => true
  | .bool a, .bool b => a == b
  | .bool a, .int b => (if a then 1 else 0) == b
  | .int a, .bool b => a == (if b then 1 else 0)
  | .int a, .int b => a == b
  | .str a, .str b => a == b
  | _, _ => false
def inF (x : PyData) (xs : List PyData) : Bool := xs.any fun y => eqF y x
theorem flat_dp {S : Hp} {v : V} (h : Dp K S v d) (f : flatD d = true) : flatV v = true := by
  cases h <;> first | rfl | cases f
theorem eqF_dp {S : Hp} {v w : V} (h : Dp K S v a) (h2 : Dp K S w b) (f : flatD a = true) (f2 : flatD b = true) : eqV v w = eqF a b := by
  cases h <;> first | (cases h2 <;> first | rfl | cases f2) | cases f
theorem flats_dp {S : Hp} : ∀ {vs : List V} {ds : List PyData}, DpAll K S vs ds → ds.all flatD = true → vs.all flatV = true
  | _, [], h, _ => by cases h; rfl
  | _, d :: ds, h, f => by
    cases h with
    | cons h1 h2 =>
      rw [List.all_cons, Bool.and_eq_true] at f ⊢
      exact ⟨flat_dp h1 f.1, flats_dp h2 f.2⟩
theorem in_dp {S : Hp} {v : V} (h : Dp K S v a) (f : flatD a = true) : ∀ {vs : List V} {ds : List PyData}, DpAll K S vs ds → ds.all flatD = true → inV v vs = inF a ds
  | _, [], h2, _ => by cases h2; rfl
  | _, d :: ds, h2, f2 => by
    cases h2 with
    | cons h3 h4 =>
      rw [List.all_cons, Bool.and_eq_true] at f2
      have ih := in_dp h f h4 f2.2
      unfold inV inF at ih ⊢
      rw [List.any_cons, List.any_cons, ih, eqF_dp h3 h f2.1 f]
theorem rd_inL {neg : Bool} {ds : List PyData} (f : flatD a = true) (fs : ds.all flatD = true) : RD K (rIn K neg) a (.list ds) (.bool (if neg then !inF a ds else inF a ds)) := fun x y S H Q hs hx hy q => by
  cases hy with
  | lst h1 h2 =>
    refine ⟨_, _, rfl, .inl (hs.seq h1), flat_dp hx f, flats_dp h2 fs, ?_⟩
    rw [in_dp hx f h2 fs]
    exact q _ S H (Grow.refl hs) (.bl _)
theorem rd_inT {neg : Bool} {ds : List PyData} (f : flatD a = true) (fs : ds.all flatD = true) : RD K (rIn K neg) a (.tuple ds) (.bool (if neg then !inF a ds else inF a ds)) := fun x y S H Q hs hx hy q => by
  cases hy with
  | tup h1 h2 =>
    refine ⟨_, _, rfl, .inr (same_seqT hs h1), flat_dp hx f, flats_dp h2 fs, ?_⟩
    rw [in_dp hx f h2 fs]
    exact q _ S H (Grow.refl hs) (.bl _)
theorem flat_ints : ∀ ns : List Int, (ns.map PyData.int).all flatD = true
  | [] => rfl
  | _ :: ns => by rw [List.map_cons, List.all_cons, flat_ints ns]; rfl
theorem inF_ints {i : Int} : ∀ ns : List Int, inF (.int i) (ns.map PyData.int) = decide (i ∈ ns)
  | [] => by simp [inF]
  | n :: ns => by
    have ih := inF_ints (i := i) ns
    unfold inF at ih ⊢
    rw [List.map_cons, List.any_cons, ih]
    by_cases h : n = i
    · subst h; simp [eqF]
    · have h' : ¬ i = n := fun e => h e.symm
      simp [eqF, h, h']
/-- len -/
theorem rc_lenL {ds : List PyData} : RCD K (rLenK K) [.list ds] (.int ds.length) := fun vs S H Q hs hx q => by
  cases hx with
  | cons h1 h2 =>
    cases h2
    cases h1 with
    | lst h3 h4 => exact ⟨_, _, rfl, .inl (hs.seq h3), q _ S H (Grow.refl hs) (by rw [DpAll_len h4]; exact .int _)⟩
theorem rc_lenT {ds : List PyData} : RCD K (rLenK K) [.tuple ds] (.int ds.length) := fun vs S H Q hs hx q => by
  cases hx with
  | cons h1 h2 =>
    cases h2
    cases h1 with
    | tup h3 h4 => exact ⟨_, _, rfl, .inr (same_seqT hs h3), q _ S H (Grow.refl hs) (by rw [DpAll_len h4]; exact .int _)⟩
/-- list(x), tuple(x) -/
theorem new_lst {S H : Hp} {xs : List V} {ds : List PyData} {Q : VK} (hs : Same S H) (h : DpAll K S xs ds) (q : ∀ v S' H', Grow m0 S H S' H' → Dp K S' v (.list ds) → Q v H') : ∀ p, H p = none → Q (.ref p) (upd H p (.lst xs)) := fun p hp =>
  have g2 : Grow m0 S H (upd S p (.lst xs)) (upd H p (.lst xs)) := Grow.new hs hp
  q _ _ _ g2 (.lst (.inl (.inl upd_same)) (DpAll_mono h g2.s))
theorem new_tup {S H : Hp} {xs : List V} {ds : List PyData} {Q : VK} (hs : Same S H) (h : DpAll K S xs ds) (q : ∀ v S' H', Grow m0 S H S' H' → Dp K S' v (.tuple ds) → Q v H') : ∀ p, H p = none → Q (.ref p) (upd H p (.tup xs)) := fun p hp =>
  have g2 : Grow m0 S H (upd S p (.tup xs)) (upd H p (.tup xs)) := Grow.new hs hp
  q _ _ _ g2 (.tup (.inl (.inl upd_same)) (DpAll_mono h g2.s))
theorem rc_listL {ds : List PyData} : RCD K (rListK K) [.list ds] (.list ds) := fun vs S H Q hs hx q => by
  cases hx with
  | cons h1 h2 =>
    cases h2
    cases h1 with
    | lst h3 h4 => exact ⟨_, _, rfl, .inl (hs.seq h3), new_lst hs h4 q⟩
theorem rc_listT {ds : List PyData} : RCD K (rListK K) [.tuple ds] (.list ds) := fun vs S H Q hs hx q => by
  cases hx with
  | cons h1 h2 =>
    cases h2
    cases h1 with
    | tup h3 h4 => exact ⟨_, _, rfl, .inr (same_seqT hs h3), new_lst hs h4 q⟩
theorem rc_tupleL {ds : List PyData} : RCD K (rTupleK K) [.list ds] (.tuple ds) := fun vs S H Q hs hx q => by
  cases hx with
  | cons h1 h2 =>
    cases h2
    cases h1 with
    | lst h3 h4 => exact ⟨_, _, rfl, .inl ⟨hs.seq h3, new_tup hs h4 q⟩⟩
theorem rc_tupleT {ds : List PyData} : RCD K (rTupleK K) [.tuple ds] (.tuple ds) := fun vs S H Q hs hx q => by
  cases hx with
  | cons h1 h2 =>
    cases h2
    cases h1 with
    | tup h3 h4 => exact ⟨_, _, rfl, .inr ⟨same_seqT hs h3, q _ S H (Grow.refl hs) (.tup h3 h4)⟩⟩
/-- abs, max, min, sum, any, all, sorted -/
theorem rc_abs {i : Int} : RCD K (fun xs H Q => ∃ i, xs = [.int i] ∧ Q (.int (if i < 0 then -i else i)) H) [.int i] (.int (if i < 0 then -i else i)) := fun vs S H Q hs hx q => by
  cases hx with
  | cons h1 h2 => cases h2; cases h1; exact ⟨i, rfl, q _ S H (Grow.refl hs) (.int _)⟩
theorem rc_sum {ns : List Int} : RCD K (rSum K) [.list (ns.map .int)] (.int ns.sum) := fun vs S H Q hs hx q => by
  cases hx with
  | cons h1 h2 =>
    cases h2
    cases h1 with
    | lst h3 h4 =>
      rw [ints_of h4] at h3
      exact ⟨_, ns, rfl, hs.seq h3, q _ S H (Grow.refl hs) (.int _)⟩
/-- the greatest, the least of a row (0 of none) -/
def maxI : List Int → Int
  | [] => 0
  | [x] => x
  | x :: y :: r => max x (maxI (y :: r))
def minI : List Int → Int
  | [] => 0
  | [x] => x
  | x :: y :: r => min x (minI (y :: r))
theorem maxI_mem : ∀ {ns : List Int}, ns ≠ [] → maxI ns ∈ ns
  | [], h => absurd rfl h
  | [x], _ => by simp [maxI]
  | x :: y :: r, _ => by
    have ih : maxI (y :: r) ∈ y :: r := maxI_mem (by simp)
    unfold maxI
    rcases Int.le_total x (maxI (y :: r)) with h | h
    · rw [Int.max_eq_right h]; exact List.mem_cons_of_mem _ ih
    · rw [Int.max_eq_left h]; exact List.mem_cons_self
theorem maxI_ge : ∀ {ns : List Int} {x : Int}, x ∈ ns → x ≤ maxI ns
  | [], _, h => by simp at h
  | [y], x, h => by simp at h; subst h; simp [maxI]
  | y :: z :: r, x, h => by
    unfold maxI
    rcases List.mem_cons.mp h with h | h
    · subst h; exact Int.le_max_left _ _
    · exact Int.le_trans (maxI_ge h) (Int.le_max_right _ _)
theorem minI_mem : ∀ {ns : List Int}, ns ≠ [] → minI ns ∈ ns
  | [], h => absurd rfl h
  | [x], _ => by simp [minI]
  | x :: y :: r, _ => by
    have ih : minI (y :: r) ∈ y :: r := minI_mem (by simp)
    unfold minI
    rcases Int.le_total x (minI (y :: r)) with h | h
    · rw [Int.min_eq_left h]; exact List.mem_cons_self
    · rw [Int.min_eq_right h]; exact List.mem_cons_of_mem _ ih
theorem minI_le : ∀ {ns : List Int} {x : Int}, x ∈ ns → minI ns ≤ x
  | [], _, h => by simp at h
  | [y], x, h => by simp at h; subst h; simp [minI]
  | y :: z :: r, x, h => by
    unfold minI
    rcases List.mem_cons.mp h with h | h
    · subst h; exact Int.min_le_left _ _
    · exact Int.le_trans (Int.min_le_right _ _) (minI_le h)
theorem maxI_is {ns : List Int} {m : Int} (h : m ∈ ns) (k : ∀ y ∈ ns, y ≤ m) : maxI ns = m :=
  Int.le_antisymm (k _ (maxI_mem (List.ne_nil_of_mem h))) (maxI_ge h)
theorem minI_is {ns : List Int} {m : Int} (h : m ∈ ns) (k : ∀ y ∈ ns, m ≤ y) : minI ns = m :=
  Int.le_antisymm (minI_le h) (k _ (minI_mem (List.ne_nil_of_mem h)))
theorem rc_max {ns : List Int} (h0 : ns ≠ []) : RCD K (rMax K) [.list (ns.map .int)] (.int (maxI ns)) := fun vs S H Q hs hx q => by
  cases hx with
  | cons h1 h2 =>
    cases h2
    cases h1 with
    | lst h3 h4 =>
      rw [ints_of h4] at h3
      exact ⟨_, ns, rfl, hs.seq h3, List.length_pos_iff.mpr h0, fun m hm hk => q _ S H (Grow.refl hs) (by rw [maxI_is hm hk]; exact .int _)⟩
theorem rc_min {ns : List Int} (h0 : ns ≠ []) : RCD K (rMin K) [.list (ns.map .int)] (.int (minI ns)) := fun vs S H Q hs hx q => by
  cases hx with
  | cons h1 h2 =>
    cases h2
    cases h1 with
    | lst h3 h4 =>
      rw [ints_of h4] at h3
      exact ⟨_, ns, rfl, hs.seq h3, List.length_pos_iff.mpr h0, fun m hm hk => q _ S H (Grow.refl hs) (by rw [minI_is hm hk]; exact .int _)⟩
theorem rc_all {bs : List Bool} : RCD K (rAll K) [.list (bs.map .bool)] (.bool (bs.all id)) := fun vs S H Q hs hx q => by
  cases hx with
  | cons h1 h2 =>
    cases h2
    cases h1 with
    | lst h3 h4 =>
      rw [bools_of h4] at h3
      exact ⟨_, bs, rfl, hs.seq h3, q _ S H (Grow.refl hs) (.bl _)⟩
theorem rc_any {bs : List Bool} : RCD K (rAny K) [.list (bs.map .bool)] (.bool (bs.any id)) := fun vs S H Q hs hx q => by
  cases hx with
  | cons h1 h2 =>
    cases h2
    cases h1 with
    | lst h3 h4 =>
      rw [bools_of h4] at h3
      exact ⟨_, bs, rfl, hs.seq h3, q _ S H (Grow.refl hs) (.bl _)⟩
/-- slices -/
def cutD (xs : List PyData) (lo hi : Option Int) : List PyData := (xs.drop (HT.sIx xs.length 0 lo)).take (HT.sIx xs.length xs.length hi - HT.sIx xs.length 0 lo)
theorem cut_dp {S : Hp} {vs : List V} {ds : List PyData} (h : DpAll K S vs ds) (lo hi : Option Int) : DpAll K S (cutV vs lo hi) (cutD ds lo hi) := by
  unfold cutV cutD
  rw [DpAll_len h]
  exact DpAll_take _ (DpAll_drop _ h)
theorem eo_none : EvO K tNoPart l none := fun H0 S H s e hs Q q => q S H (Grow.refl hs)
theorem eo_some {i : Int} (h : Ev K te l (.int i)) : EvO K (tPart te) l (some i) := fun H0 S H s e hs Q q =>
  h H0 S H s e hs _ fun v S1 H1 g1 d1 => by cases d1; exact ⟨i, rfl, q S1 H1 g1⟩
/-- a slice of a list or a tuple -/
def rSlAny (K : PySem.W.Frag) : V → Option Int → Option Int → Hp → VK → Prop := fun x lo hi H Q => rSlL K x lo hi H Q ∨ rSlA K x lo hi H Q
theorem ev_slL {tl th : TO} {lo hi : Option Int} {ds : List PyData} (h : Ev K te l (.list ds)) (h1 : EvO K tl l lo) (h2 : EvO K th l hi) : Ev K (tSl (rSlAny K) te tl th) l (.list (cutD ds lo hi)) := fun H0 S H s e hs Q q =>
  h H0 S H s e hs _ fun v S1 H1 g1 d1 => h1 H0 S1 H1 s (e.grow g1) g1.f _ fun S2 H2 g2 => h2 H0 S2 H2 s (e.grow (g1.trans g2)) g2.f _ fun S3 H3 g3 => by
    cases Dp_mono d1 (g2.s.trans g3.s) with
    | lst h3 h4 => exact .inl ⟨_, _, rfl, g3.f.seq h3, new_lst g3.f (cut_dp h4 lo hi) fun v S' H' g d => q v S' H' (((g1.trans g2).trans g3).trans g) d⟩
theorem ev_slT {tl th : TO} {lo hi : Option Int} {ds : List PyData} (h : Ev K te l (.tuple ds)) (h1 : EvO K tl l lo) (h2 : EvO K th l hi) : Ev K (tSl (rSlAny K) te tl th) l (.tuple (cutD ds lo hi)) := fun H0 S H s e hs Q q =>
  h H0 S H s e hs _ fun v S1 H1 g1 d1 => h1 H0 S1 H1 s (e.grow g1) g1.f _ fun S2 H2 g2 => h2 H0 S2 H2 s (e.grow (g1.trans g2)) g2.f _ fun S3 H3 g3 => by
    cases Dp_mono d1 (g2.s.trans g3.s) with
    | @tup a xs _ h3 h4 =>
      refine .inr ⟨_, _, rfl, same_seqT g3.f h3, fun hw => q _ S3 H3 ((g1.trans g2).trans g3) ?_, fun _ => new_tup g3.f (cut_dp h4 lo hi) fun v S' H' g d => q v S' H' (((g1.trans g2).trans g3).trans g) d⟩
      have hl := DpAll_len h4
      rw [hl] at hw
      have ec : cutD ds lo hi = ds := by
        unfold cutD
        rw [hw.1, hw.2]
        simp
      rw [ec]
      exact .tup h3 h4
end
end Dz

namespace Dz
open PySem L2 RZ

/-! ### walks -/
structure WalkD (K : PySem.W.Frag) (J : It) (S : Hp) (ds : List PyData) : Prop where
  go : ∀ i H, i < ds.length → Same S H → J.go i H
  stop : ∀ H, Same S H → J.stop ds.length H
  yld : ∀ i H x H' d S2, ds[i]? = some d → Same S S2 → Same S2 H → J.yld i H x H' → ∃ S', Grow m0 S2 H S' H' ∧ Dp K S' x d
def EvI (K : PySem.W.Frag) (wi : TI) (l : List Sl) (ds : List PyData) : Prop := ∀ H0 S H s, Env K H0 S H s l → Same S H → ∀ R : It → Hp → Prop, (∀ J S' H', Grow m0 S H S' H' → WalkD K J S' ds → R J H') → wi s H R
theorem PI_or {X : Cx} {tg e : Expr} {w1 w2 : TI} (h1 : PI X tg e w1) (h2 : PI X tg e w2) : PI X tg e (fun s H R => w1 s H R ∨ w2 s H R) :=
  ⟨fun pins s σ H R I h => h.elim (fun q => h1.run pins s σ H R I q) fun q => h2.run pins s σ H R I q⟩
def iSeq (K : PySem.W.Frag) (tl : TE) : TI := fun s H R => iList K tl s H R ∨ iTup K tl s H R
theorem pi_seq {X : Cx} {tg e : Expr} {tl : TE} (h : PE X e tl) : PI X tg e (iSeq X.K tl) := PI_or (pi_list h) (pi_tup h)
section
variable {K : PySem.W.Frag} {l l' : List Sl} {ta tb te : TE} {t u : TT} {a b c d : PyData} {r : R2} {ds : List PyData}
theorem walkL {S : Hp} {p : Addr} {xs : List V} (h : SqL K S p xs) (hd : DpAll K S xs ds) : WalkD K (Itl K p) S ds := by
  have w := walk_list (K := K) (a := p) (xs := xs)
  rw [DpAll_len hd] at w
  refine ⟨fun i H hi hs => w.goes i H hi (hs.seq h), fun H hs => w.stops H (hs.seq h), fun i H x H' d S2 e s1 s2 y => ?_⟩
  have hi : i < ds.length := (List.getElem?_eq_some_iff.mp e).1
  obtain ⟨rfl, q⟩ := w.yields i H x H' hi ((s1.trans s2).seq h) y
  obtain ⟨v, hv, hdv⟩ := DpAll_get hd e
  rw [hv] at q
  cases q
  exact ⟨S2, Grow.refl s2, Dp_mono hdv s1⟩
theorem walkT {S : Hp} {p : Addr} {xs : List V} (h : SqT K S p xs) (hd : DpAll K S xs ds) : WalkD K (Itt K p) S ds := by
  have w := walk_tup (K := K) (a := p) (xs := xs)
  rw [DpAll_len hd] at w
  refine ⟨fun i H hi hs => w.goes i H hi (same_seqT hs h), fun H hs => w.stops H (same_seqT hs h), fun i H x H' d S2 e s1 s2 y => ?_⟩
  have hi : i < ds.length := (List.getElem?_eq_some_iff.mp e).1
  obtain ⟨rfl, q⟩ := w.yields i H x H' hi (same_seqT (s1.trans s2) h) y
  obtain ⟨v, hv, hdv⟩ := DpAll_get hd e
  rw [hv] at q
  cases q
  exact ⟨S2, Grow.refl s2, Dp_mono hdv s1⟩
theorem ei_list (h : Ev K te l (.list ds)) : EvI K (iSeq K te) l ds := fun H0 S H s e hs R q =>
  .inl (h H0 S H s e hs _ fun v S1 H1 g1 d1 => by
    cases d1 with
    | lst h1 h2 => exact ⟨_, rfl, ⟨_, g1.f.seq h1⟩, q _ S1 H1 g1 (walkL h1 h2)⟩)
theorem ei_tup (h : Ev K te l (.tuple ds)) : EvI K (iSeq K te) l ds := fun H0 S H s e hs R q =>
  .inr (h H0 S H s e hs _ fun v S1 H1 g1 d1 => by
    cases d1 with
    | tup h1 h2 => exact ⟨_, rfl, ⟨_, same_seqT g1.f h1⟩, q _ S1 H1 g1 (walkT h1 h2)⟩)
/-- lo, lo + 1, .. : n of them -/
def rng (lo : Int) (n : Nat) : List PyData := (List.range n).map fun (i : Nat) => PyData.int (lo + (i : Int))
theorem rng_len (lo : Int) (n : Nat) : (rng lo n).length = n := by simp [rng]
theorem rng_get {lo : Int} {n i : Nat} {d : PyData} (h : (rng lo n)[i]? = some d) : i < n ∧ d = .int (lo + i) := by
  unfold rng at h
  rw [List.getElem?_map] at h
  by_cases hi : i < n
  · rw [List.getElem?_range hi] at h
    exact ⟨hi, (Option.some.inj h).symm⟩
  · rw [List.getElem?_eq_none (by simpa using hi)] at h
    cases h
theorem walkR {S : Hp} {lo : Int} {n : Nat} : WalkD K (Itr lo n) S (rng lo n) := by
  have w := walk_range (lo := lo) (n := n)
  refine ⟨fun i H hi _ => w.goes i H (by rwa [rng_len] at hi) trivial, fun H _ => by rw [rng_len]; exact w.stops H trivial, fun i H x H' d S2 e s1 s2 y => ?_⟩
  obtain ⟨hi, rfl⟩ := rng_get e
  obtain ⟨rfl, rfl⟩ := w.yields i H x H' hi trivial y
  exact ⟨S2, Grow.refl s2, .int _⟩
theorem ei_rng1 {n : Int} (h : Ev K te l (.int n)) (hn : n ≤ 100000) (h0 : -100000 ≤ n) : EvI K (iRng1 (tCons te tNil)) l (rng 0 n.toNat) := fun H0 S H s e hs R q =>
  h H0 S H s e hs _ fun v S1 H1 g1 d1 => by
    cases d1
    exact ⟨n, rfl, by omega, by omega, q _ S1 H1 g1 walkR⟩
theorem ei_rng2 {m n : Int} (h1 : Ev K ta l (.int m)) (h : Ev K te l (.int n)) (hn : m ≤ 100000 ∧ -100000 ≤ m ∧ n ≤ 100000 ∧ -100000 ≤ n) : EvI K (iRng2 (tCons ta (tCons te tNil))) l (rng m (n - m).toNat) := fun H0 S H s e hs R q =>
  h1 H0 S H s e hs _ fun v S1 H1 g1 d1 => h H0 S1 H1 s (e.grow g1) g1.f _ fun w S2 H2 g2 d2 => by
    cases d1
    cases d2
    exact ⟨m, n, rfl, ⟨by omega, by omega, by omega, by omega⟩, q _ S2 H2 (g1.trans g2) walkR⟩
/-- pairs -/
def prs (f g : Nat → PyData) (n : Nat) : List PyData := (List.range n).map fun i => PyData.tuple [f i, g i]
theorem dp_pair {S H H' : Hp} {T : Addr} {x y : V} (hs : Same S H) (hn : H T = none) (e : H' = upd H T (.tup [x, y])) (h1 : Dp K S x a) (h2 : Dp K S y b) : ∃ S', Grow m0 S H S' H' ∧ Dp K S' (.ref T) (.tuple [a, b]) := by
  subst e
  have g : Grow m0 S H (upd S T (.tup [x, y])) (upd H T (.tup [x, y])) := Grow.new hs hn
  exact ⟨_, g, .tup (.inl (.inl upd_same)) (.cons (Dp_mono h1 g.s) (.cons (Dp_mono h2 g.s) .nil))⟩
def enumD (ds : List PyData) : List PyData := (List.range ds.length).zipWith (fun i d => PyData.tuple [.int (i : Nat), d]) ds
theorem enumD_len (ds : List PyData) : (enumD ds).length = ds.length := by simp [enumD]
theorem enumD_get {i : Nat} {d : PyData} (h : (enumD ds)[i]? = some d) : ∃ e, ds[i]? = some e ∧ d = .tuple [.int (i : Nat), e] := by
  have hl := (List.getElem?_eq_some_iff.mp h).1
  rw [enumD_len] at hl
  unfold enumD at h
  rw [List.getElem?_zipWith, List.getElem?_range hl, List.getElem?_eq_getElem hl] at h
  exact ⟨ds[i], List.getElem?_eq_getElem hl, (Option.some.inj h).symm⟩
theorem walkE {S : Hp} {p : Addr} {xs : List V} (h : SqL K S p xs) (hd : DpAll K S xs ds) : WalkD K (Ite K p) S (enumD ds) := by
  have w := walk_enum (K := K) (a := p) (xs := xs)
  rw [DpAll_len hd] at w
  refine ⟨fun i H hi hs => w.goes i H (by rwa [enumD_len] at hi) (hs.seq h), fun H hs => by rw [enumD_len]; exact w.stops H (hs.seq h), fun i H x H' d S2 e s1 s2 y => ?_⟩
  obtain ⟨e', he, rfl⟩ := enumD_get e
  have hi : i < ds.length := (List.getElem?_eq_some_iff.mp he).1
  obtain ⟨T, x1, y1, rfl, hn, e2, q1, q2⟩ := w.yields i H x H' hi ((s1.trans s2).seq h) y
  obtain ⟨v, hv, hdv⟩ := DpAll_get hd he
  cases q1
  have q3 : xs[i]? = some y1 := q2
  rw [hv] at q3
  cases q3
  exact dp_pair s2 hn e2 (.int _) (Dp_mono hdv s1)
theorem ei_enum (h : Ev K te l (.list ds)) : EvI K (iEnum K (tCons te tNil)) l (enumD ds) := fun H0 S H s e hs R q =>
  h H0 S H s e hs _ fun v S1 H1 g1 d1 => by
    cases d1 with
    | lst h1 h2 => exact ⟨_, _, rfl, g1.f.seq h1, q _ S1 H1 g1 (walkE h1 h2)⟩
def zipD (ds es : List PyData) : List PyData := ds.zipWith (fun d e => PyData.tuple [d, e]) es
theorem zipD_get {es : List PyData} {i : Nat} {d : PyData} (h : (zipD ds es)[i]? = some d) : ∃ x y, ds[i]? = some x ∧ es[i]? = some y ∧ d = .tuple [x, y] := by
  unfold zipD at h
  rw [List.getElem?_zipWith] at h
  cases h1 : ds[i]? with
  | none => rw [h1] at h; cases h
  | some x =>
    cases h2 : es[i]? with
    | none => rw [h1, h2] at h; cases h
    | some y => rw [h1, h2] at h; exact ⟨x, y, rfl, rfl, (Option.some.inj h).symm⟩
theorem walkZT {S : Hp} {p p2 : Addr} {xs ys : List V} {es : List PyData} (h : SqT K S p xs) (hd : DpAll K S xs ds) (h' : SqT K S p2 ys) (hd' : DpAll K S ys es) : WalkD K (ItzT K p p2) S (zipD ds es) := by
  have l1 := DpAll_len hd
  have l2 := DpAll_len hd'
  have lz : (zipD ds es).length = min ds.length es.length := by simp [zipD]
  refine ⟨fun i H hi hs => ?_, fun H hs => ?_, fun i H x H' d S2 e s1 s2 y => ?_⟩
  · have h1 : i < xs.length := by omega
    have h2 : i < ys.length := by omega
    exact ⟨xs, ys, xs[i], ys[i], same_seqT hs h, same_seqT hs h', List.getElem?_eq_getElem h1, List.getElem?_eq_getElem h2⟩
  · exact ⟨xs, ys, same_seqT hs h, same_seqT hs h', by omega⟩
  · obtain ⟨a', b', ha, hb, rfl⟩ := zipD_get e
    obtain ⟨T, x1, y1, rfl, hn, e2, q1, q2⟩ := y
    obtain ⟨v, hv, hdv⟩ := DpAll_get hd ha
    obtain ⟨w, hw, hdw⟩ := DpAll_get hd' hb
    have e3 := q1 xs (same_seqT (s1.trans s2) h)
    have e4 := q2 ys (same_seqT (s1.trans s2) h')
    rw [hv] at e3
    rw [hw] at e4
    cases e3
    cases e4
    exact dp_pair s2 hn e2 (Dp_mono hdv s1) (Dp_mono hdw s1)
theorem walkZL {S : Hp} {p p2 : Addr} {xs ys : List V} {es : List PyData} (h : SqL K S p xs) (hd : DpAll K S xs ds) (h' : SqL K S p2 ys) (hd' : DpAll K S ys es) : WalkD K (Itz K p p2) S (zipD ds es) := by
  have l1 := DpAll_len hd
  have l2 := DpAll_len hd'
  have lz : (zipD ds es).length = min ds.length es.length := by simp [zipD]
  refine ⟨fun i H hi hs => ?_, fun H hs => ?_, fun i H x H' d S2 e s1 s2 y => ?_⟩
  · have h1 : i < xs.length := by omega
    have h2 : i < ys.length := by omega
    exact ⟨xs, ys, xs[i], ys[i], hs.seq h, hs.seq h', List.getElem?_eq_getElem h1, List.getElem?_eq_getElem h2⟩
  · exact ⟨xs, ys, hs.seq h, hs.seq h', by omega⟩
  · obtain ⟨a', b', ha, hb, rfl⟩ := zipD_get e
    obtain ⟨T, x1, y1, rfl, hn, e2, q1, q2⟩ := y
    obtain ⟨v, hv, hdv⟩ := DpAll_get hd ha
    obtain ⟨w, hw, hdw⟩ := DpAll_get hd' hb
    have e3 := q1 xs ((s1.trans s2).seq h)
    have e4 := q2 ys ((s1.trans s2).seq h')
    rw [hv] at e3
    rw [hw] at e4
    cases e3
    cases e4
    exact dp_pair s2 hn e2 (Dp_mono hdv s1) (Dp_mono hdw s1)
theorem ei_zipT {es : List PyData} (h : Ev K ta l (.tuple ds)) (h' : Ev K te l (.tuple es)) : EvI K (iZipA K (tCons ta (tCons te tNil))) l (zipD ds es) := fun H0 S H s e hs R q =>
  h H0 S H s e hs _ fun v S1 H1 g1 d1 => h' H0 S1 H1 s (e.grow g1) g1.f _ fun w S2 H2 g2 d2 => by
    cases Dp_mono d1 g2.s with
    | tup h1 h2 =>
      cases d2 with
      | tup h3 h4 => exact ⟨_, _, _, _, rfl, .inr ⟨same_seqT g2.f h1, same_seqT g2.f h3, q _ S2 H2 (g1.trans g2) (walkZT h1 h2 h3 h4)⟩⟩
theorem ei_zipL {es : List PyData} (h : Ev K ta l (.list ds)) (h' : Ev K te l (.list es)) : EvI K (iZipA K (tCons ta (tCons te tNil))) l (zipD ds es) := fun H0 S H s e hs R q =>
  h H0 S H s e hs _ fun v S1 H1 g1 d1 => h' H0 S1 H1 s (e.grow g1) g1.f _ fun w S2 H2 g2 d2 => by
    cases Dp_mono d1 g2.s with
    | lst h1 h2 =>
      cases d2 with
      | lst h3 h4 => exact ⟨_, _, _, _, rfl, .inl ⟨g2.f.seq h1, g2.f.seq h3, q _ S2 H2 (g1.trans g2) (walkZL h1 h2 h3 h4)⟩⟩

/-! ### targets -/
def Bd (K : PySem.W.Frag) (g : TG) (l : List Sl) (d : PyData) (l' : List Sl) : Prop := ∀ H0 S H s v (Q : L2.St → Hp → Prop), Env K H0 S H s l → Same S H → Dp K S v d → (∀ s', Env K H0 S H s' l' → Q s' H) → g v s H Q
def Bds (K : PySem.W.Frag) (g : TGs) (l : List Sl) (ds : List PyData) (l' : List Sl) : Prop := ∀ H0 S H s vs (Q : L2.St → Hp → Prop), Env K H0 S H s l → Same S H → DpAll K S vs ds → (∀ s', Env K H0 S H s' l' → Q s' H) → g vs s H Q
theorem bd_name {i : Nat} : Bd K (gName i) l d (l.set i (.dat d)) := fun H0 S H s v Q e hs hd q => q _ (e.dat hd)
theorem bds_nil : Bds K gNil l [] l := fun H0 S H s v Q e hs hd q => by cases hd; exact ⟨rfl, q s e⟩
theorem bds_cons {g : TG} {gs : TGs} {l1 l2 : List Sl} (h1 : Bd K g l d l1) (h2 : Bds K gs l1 ds l2) : Bds K (gCons g gs) l (d :: ds) l2 := fun H0 S H s vs Q e hs hd q => by
  cases hd with
  | cons a b => exact ⟨_, _, rfl, h1 H0 S H s _ _ e hs a fun s' e' => h2 H0 S H s' _ _ e' hs b q⟩
theorem bd_tup {gs : TGs} {n : Nat} (h : Bds K gs l ds l') (hn : ds.length = n) : Bd K (gTup K n gs) l (.tuple ds) l' := fun H0 S H s v Q e hs hd q => by
  cases hd with
  | tup a b => exact ⟨_, _, rfl, same_seqT hs a, (DpAll_len b).trans hn, h H0 S H s _ _ e hs b q⟩
/-- the target's names are among vs -/
def GIn (g : TG) (vs : List Nat) : Prop := ∀ v s H (Q : L2.St → Hp → Prop), g v s H Q → g v s H fun s' H' => wipe s' vs = wipe s vs ∧ Q s' H'
def GIns (g : TGs) (vs : List Nat) : Prop := ∀ v s H (Q : L2.St → Hp → Prop), g v s H Q → g v s H fun s' H' => wipe s' vs = wipe s vs ∧ Q s' H'
theorem wipe_get {s : L2.St} {j : Nat} : ∀ {vs : List Nat}, (wipe s vs)[j]? = if j ∈ vs then (if j < s.length then some none else none) else s[j]?
  | [] => by simp [wipe]
  | v :: vs => by
    unfold wipe
    rw [List.getElem?_set]
    by_cases h : v = j
    · subst h
      rw [if_pos rfl, wipe_length, if_pos List.mem_cons_self]
    · rw [if_neg h, wipe_get]
      have : (j ∈ v :: vs) ↔ j ∈ vs := by
        rw [List.mem_cons]
        exact ⟨fun z => z.elim (fun q => absurd q.symm h) id, .inr⟩
      by_cases hj : j ∈ vs
      · rw [if_pos hj, if_pos (this.mpr hj)]
      · rw [if_neg hj, if_neg fun z => hj (this.mp z)]
theorem wipe_set {s : L2.St} {i : Nat} {x : Option V} {vs : List Nat} (h : i ∈ vs) : wipe (s.set i x) vs = wipe s vs := by
  apply List.ext_getElem?
  intro j
  rw [wipe_get, wipe_get, List.length_set]
  by_cases hj : j ∈ vs
  · rw [if_pos hj, if_pos hj]
  · rw [if_neg hj, if_neg hj, List.getElem?_set_ne fun (e : i = j) => hj (e ▸ h)]
theorem gin_name {i : Nat} {vs : List Nat} (h : i ∈ vs) : GIn (gName i) vs := fun v s H Q q => ⟨wipe_set h, q⟩
theorem gins_nil {vs : List Nat} : GIns gNil vs := fun v s H Q q => ⟨q.1, rfl, q.2⟩
theorem gins_cons {g : TG} {gs : TGs} {vs : List Nat} (h1 : GIn g vs) (h2 : GIns gs vs) (mono : ∀ v s H (Q Q' : L2.St → Hp → Prop), (∀ s' H', Q s' H' → Q' s' H') → g v s H Q → g v s H Q') : GIns (gCons g gs) vs := fun v s H Q ⟨x, r, e, q⟩ =>
  ⟨x, r, e, mono _ _ _ _ _ (fun s' H' ⟨w, k⟩ => by
    have := h2 r s' H' Q k
    rw [w] at this
    exact this) (h1 x s H _ q)⟩
theorem gin_tup {gs : TGs} {n : Nat} {vs : List Nat} (h : GIns gs vs) : GIn (gTup K n gs) vs := fun v s H Q ⟨a, xs, e, h1, h2, q⟩ => ⟨a, xs, e, h1, h2, h xs s H Q q⟩
theorem gmono_name {i : Nat} : ∀ v s H (Q Q' : L2.St → Hp → Prop), (∀ s' H', Q s' H' → Q' s' H') → gName i v s H Q → gName i v s H Q' := fun v s H Q Q' f q => f _ _ q
theorem gmonos_nil : ∀ v s H (Q Q' : L2.St → Hp → Prop), (∀ s' H', Q s' H' → Q' s' H') → gNil v s H Q → gNil v s H Q' := fun v s H Q Q' f q => ⟨q.1, f _ _ q.2⟩
theorem gmonos_cons {g : TG} {gs : TGs} (h1 : ∀ v s H (Q Q' : L2.St → Hp → Prop), (∀ s' H', Q s' H' → Q' s' H') → g v s H Q → g v s H Q') (h2 : ∀ v s H (Q Q' : L2.St → Hp → Prop), (∀ s' H', Q s' H' → Q' s' H') → gs v s H Q → gs v s H Q') :
    ∀ v s H (Q Q' : L2.St → Hp → Prop), (∀ s' H', Q s' H' → Q' s' H') → gCons g gs v s H Q → gCons g gs v s H Q' := fun v s H Q Q' f ⟨x, r, e, q⟩ => ⟨x, r, e, h1 _ _ _ _ _ (fun s' H' k => h2 _ _ _ _ _ f k) q⟩
theorem gmono_tup {gs : TGs} {n : Nat} (h2 : ∀ v s H (Q Q' : L2.St → Hp → Prop), (∀ s' H', Q s' H' → Q' s' H') → gs v s H Q → gs v s H Q') :
    ∀ v s H (Q Q' : L2.St → Hp → Prop), (∀ s' H', Q s' H' → Q' s' H') → gTup K n gs v s H Q → gTup K n gs v s H Q' := fun v s H Q Q' f ⟨a, xs, e, e1, e2, q⟩ => ⟨a, xs, e, e1, e2, h2 _ _ _ _ _ f q⟩
def wipeL (l : List Sl) : List Nat → List Sl
  | [] => l
  | v :: vs => (wipeL l vs).set v .no
theorem Env.wipe {H0 S H : Hp} {s : L2.St} (h : Env K H0 S H s l) : ∀ vs : List Nat, Env K H0 S H (L2.wipe s vs) (wipeL l vs)
  | [] => h
  | v :: vs => (Env.wipe h vs).forget
/-! ### comprehensions -/
section
variable {m : Addr → Prop} {S H S1 H1 S2 H2 : Hp} {p : Addr} {o : HO}
theorem Grow.putNew (g : Grow m S H S1 H1) (hp : H p = none) (hs : S1 p = none) (hx : H1 p ≠ none) : Grow m S H S1 (upd H1 p o) :=
  ⟨g.s, fun b x e => by rw [upd_ne (ne_of_none e hs)]; exact g.f b x e, g.n, fun a u hm e => by rw [upd_ne (ne_of_none e hp)]; exact g.k a u hm e, fun a e => by
    by_cases z : a = p
    · subst z; rw [upd_same]; exact fun q => nomatch q
    · rw [upd_ne z]; exact g.d a e⟩
theorem Grow.take (g : Grow m S H S1 H1) (hp : H p = none) (hx : H1 p = some o) (hs : S1 p = none) : Grow m S H (upd S1 p o) H1 :=
  ⟨g.s.trans (same_up hs), fun b x e => by
    by_cases z : b = p
    · subst z; rw [upd_same] at e; rw [hx]; exact e
    · rw [upd_ne z] at e; exact g.f b x e, fun a e q => by
    have : a ≠ p := fun z => by subst z; exact q hp
    rw [upd_ne this]; exact g.n a e q, g.k, g.d⟩
end
theorem filter_take_succ {α : Type} {xs : List α} {q : α → Bool} {i : Nat} {x : α} (h : xs[i]? = some x) : (xs.take (i + 1)).filter q = (xs.take i).filter q ++ (if q x then [x] else []) := by
  rw [List.take_add_one, h, List.filter_append]
  by_cases hq : q x
  · simp [hq]
  · simp [hq]
/-- a comprehension; the new list is nobody's yet -/
theorem ev_lcN {α : Type} {xs : List α} {h : α → PyData} {wi : TI} {g : TG} {tt : TT} {vs : List Nat} {q : α → Bool} {f : α → PyData} {lb : α → List Sl} (hi : EvI K wi l (xs.map h)) (hg : GIn g vs)
    (hm : ∀ v s H (Q Q' : L2.St → Hp → Prop), (∀ s' H', Q s' H' → Q' s' H') → g v s H Q → g v s H Q')
    (hb : ∀ x ∈ xs, Bd K g (wipeL l vs) (h x) (lb x)) (ht : ∀ x ∈ xs, EvT K tt (lb x) (q x)) (he : ∀ x ∈ xs, q x = true → Ev K te (lb x) (f x)) (hz : xs.length ≤ 100000)
    {H0 S H : Hp} {s : L2.St} (e : Env K H0 S H s l) (hs : Same S H) (Q : VK) (k : ∀ D S' H' vs, Grow m0 S H S' H' → H D = none → S' D = none → H' D = some (.lst vs) → DpAll K S' vs ((xs.filter q).map f) → Q (.ref D) H') : tLc wi g tt te vs s H Q := by
  refine hi H0 S H s e hs _ fun J S1 H1 g1 w => ?_
  have hlen : (xs.map h).length = xs.length := List.length_map _
  intro D hD
  have hDH : H D = none := g1.all.free hD
  refine ⟨fun i m H2 => m = xs.length - i ∧ i ≤ xs.length ∧ ∃ S' acc, Grow m0 S1 H1 S' H2 ∧ S' D = none ∧ H2 D = some (.lst acc) ∧ DpAll K S' acc (((xs.take i).filter q).map f),
    ⟨xs.length, by simp, Nat.zero_le _, S1, [], Grow.out g1.f hD, g1.f.free hD, upd_same, .nil⟩, ?_⟩
  rintro i m H2 ⟨rfl, hi', S', acc, g2, sD, hD2, hacc⟩
  by_cases hlt : i < xs.length
  · refine .inr ⟨w.go i H2 (by omega) (g2.s.trans g2.f), fun H3 => i + 1 ≤ xs.length ∧ ∃ S' acc, Grow m0 S1 H1 S' H3 ∧ S' D = none ∧ H3 D = some (.lst acc) ∧ DpAll K S' acc (((xs.take (i + 1)).filter q).map f), fun H3 ⟨a, b⟩ => ⟨xs.length - (i + 1), by omega, rfl, a, b⟩, fun x H3 y => ?_⟩
    have hd0 : xs[i]? = some xs[i] := List.getElem?_eq_getElem hlt
    have hd : (xs.map h)[i]? = some (h xs[i]) := by rw [List.getElem?_map, hd0]; rfl
    have hmem : xs[i] ∈ xs := List.getElem_mem hlt
    obtain ⟨S3, g3, d3⟩ := w.yld i H2 x H3 (h xs[i]) S' hd g2.s g2.f y
    have sD3 : S3 D = none := g3.n D sD (some_ne hD2)
    have hD3 : H3 D = some (.lst acc) := g3.all D _ hD2
    have g13 : Grow m0 S H S3 H3 := (g1.trans g2).trans g3
    have e3 : Env K H0 S3 H3 (wipe s vs) (wipeL l vs) := Env.wipe (e.grow g13) vs
    have bnd := hb xs[i] hmem H0 S3 H3 (wipe s vs) x (fun s' H' => H' = H3 ∧ Env K H0 S3 H3 s' (lb xs[i])) e3 g3.f d3 fun s' e' => ⟨rfl, e'⟩
    refine hm _ _ _ _ _ ?_ (hg x (wipe s vs) H3 _ bnd)
    rintro s2 H4 ⟨hw, rfl, e4⟩
    have hw' : wipe s2 vs = wipe s vs := by
      rw [hw]
      apply List.ext_getElem?
      intro j
      rw [wipe_get, wipe_get, wipe_length]
      by_cases hj : j ∈ vs
      · rw [if_pos hj, if_pos hj]
      · rw [if_neg hj, if_neg hj]
    refine ⟨hw', ?_⟩
    refine ht xs[i] hmem H0 S3 H4 s2 e4 g3.f _ fun S5 H5 g5 => ?_
    have sD5 : S5 D = none := g5.n D sD3 (some_ne hD3)
    have hD5 : H5 D = some (.lst acc) := g5.all D _ hD3
    cases hq : q xs[i] with
    | false =>
      rw [if_neg Bool.false_ne_true]
      refine ⟨hlt, S5, acc, (g2.trans g3).trans g5, sD5, hD5, ?_⟩
      rw [filter_take_succ hd0, hq]
      simp only [Bool.false_eq_true, if_false, List.append_nil]
      exact DpAll_mono hacc (g3.s.trans g5.s)
    | true =>
      rw [if_pos rfl]
      refine he xs[i] hmem hq H0 S5 H5 s2 (e4.grow g5) g5.f _ fun y2 S6 H6 g6 d6 => ?_
      have sD6 : S6 D = none := g6.n D sD5 (some_ne hD5)
      have hD6 : H6 D = some (.lst acc) := g6.all D _ hD5
      have gg : Grow m0 S1 H1 S6 H6 := ((g2.trans g3).trans g5).trans g6
      have hl := DpAll_len hacc
      have hlf : (((xs.take i).filter q).map f).length ≤ i := by
        rw [List.length_map]
        exact Nat.le_trans (List.length_filter_le _ _) (by rw [List.length_take]; omega)
      refine ⟨acc, hD6, szt (by omega), hlt, S6, acc ++ [y2], gg.putNew hD sD6 (some_ne hD6), sD6, upd_same, ?_⟩
      rw [filter_take_succ hd0, hq]
      simp only [if_true, List.map_append, List.map_cons, List.map_nil]
      exact DpAll_app (DpAll_mono hacc ((g3.s.trans g5.s).trans g6.s)) (.cons d6 .nil)
  · have ei : i = xs.length := by omega
    subst ei
    refine .inl ⟨by rw [← hlen]; exact w.stop H2 (g2.s.trans g2.f), k D S' H2 acc (g1.trans g2) hDH sD hD2 ?_⟩
    rw [List.take_length] at hacc
    exact hacc
theorem ev_lc {α : Type} {xs : List α} {h : α → PyData} {wi : TI} {g : TG} {tt : TT} {vs : List Nat} {q : α → Bool} {f : α → PyData} {lb : α → List Sl} (hi : EvI K wi l (xs.map h)) (hg : GIn g vs)
    (hm : ∀ v s H (Q Q' : L2.St → Hp → Prop), (∀ s' H', Q s' H' → Q' s' H') → g v s H Q → g v s H Q')
    (hb : ∀ x ∈ xs, Bd K g (wipeL l vs) (h x) (lb x)) (ht : ∀ x ∈ xs, EvT K tt (lb x) (q x)) (he : ∀ x ∈ xs, q x = true → Ev K te (lb x) (f x)) (hz : xs.length ≤ 100000) : Ev K (tLc wi g tt te vs) l (.list ((xs.filter q).map f)) := fun H0 S H s e hs Q k =>
  ev_lcN hi hg hm hb ht he hz e hs Q fun D S' H' xs g1 h1 h2 h3 h4 =>
    have g2 := g1.take h1 h3 h2
    k _ _ _ g2 (.lst (.inl (.inl upd_same)) (DpAll_mono h4 (same_up h2)))
/-- .. without a test -/
theorem ev_lcA {α : Type} {xs : List α} {h : α → PyData} {wi : TI} {g : TG} {vs : List Nat} {f : α → PyData} {lb : α → List Sl} (hi : EvI K wi l (xs.map h)) (hg : GIn g vs)
    (hm : ∀ v s H (Q Q' : L2.St → Hp → Prop), (∀ s' H', Q s' H' → Q' s' H') → g v s H Q → g v s H Q')
    (hb : ∀ x ∈ xs, Bd K g (wipeL l vs) (h x) (lb x)) (he : ∀ x ∈ xs, Ev K te (lb x) (f x)) (hz : xs.length ≤ 100000) : Ev K (tLc wi g tYes te vs) l (.list (xs.map f)) := by
  have := ev_lc (q := fun _ => true) hi hg hm hb (fun _ _ => et_yes) (fun x hx _ => he x hx) hz
  rwa [List.filter_eq_self.mpr fun _ _ => rfl] at this
/-- what comes to a new list that is nobody's yet -/
def EvL (K : PySem.W.Frag) (te : TE) (l : List Sl) (ds : List PyData) : Prop := ∀ H0 S H s, Env K H0 S H s l → Same S H → ∀ Q : VK, (∀ p S' H' xs, Grow m0 S H S' H' → H p = none → S' p = none → H' p = some (.lst xs) → DpAll K S' xs ds → Q (.ref p) H') → te s H Q
theorem el_lc {α : Type} {xs : List α} {h : α → PyData} {wi : TI} {g : TG} {tt : TT} {vs : List Nat} {q : α → Bool} {f : α → PyData} {lb : α → List Sl} (hi : EvI K wi l (xs.map h)) (hg : GIn g vs)
    (hm : ∀ v s H (Q Q' : L2.St → Hp → Prop), (∀ s' H', Q s' H' → Q' s' H') → g v s H Q → g v s H Q')
    (hb : ∀ x ∈ xs, Bd K g (wipeL l vs) (h x) (lb x)) (ht : ∀ x ∈ xs, EvT K tt (lb x) (q x)) (he : ∀ x ∈ xs, q x = true → Ev K te (lb x) (f x)) (hz : xs.length ≤ 100000) : EvL K (tLc wi g tt te vs) l ((xs.filter q).map f) := fun H0 S H s e hs Q k =>
  ev_lcN hi hg hm hb ht he hz e hs Q k
theorem el_lcA {α : Type} {xs : List α} {h : α → PyData} {wi : TI} {g : TG} {vs : List Nat} {f : α → PyData} {lb : α → List Sl} (hi : EvI K wi l (xs.map h)) (hg : GIn g vs)
    (hm : ∀ v s H (Q Q' : L2.St → Hp → Prop), (∀ s' H', Q s' H' → Q' s' H') → g v s H Q → g v s H Q')
    (hb : ∀ x ∈ xs, Bd K g (wipeL l vs) (h x) (lb x)) (he : ∀ x ∈ xs, Ev K te (lb x) (f x)) (hz : xs.length ≤ 100000) : EvL K (tLc wi g tYes te vs) l (xs.map f) := by
  have := el_lc (q := fun _ => true) hi hg hm hb (fun _ _ => et_yes) (fun x hx _ => he x hx) hz
  rwa [List.filter_eq_self.mpr fun _ _ => rfl] at this
theorem el_lst {tr : TA} (ha : EvA K tr l ds) (hl : ds.length ≤ 100000) : EvL K (tLst tr) l ds := fun H0 S H s e hs Q q =>
  ha H0 S H s e hs _ fun xs S1 H1 g1 d1 => ⟨by rw [DpAll_len d1]; exact szl hl, fun p hp => q p S1 _ xs (g1.trans (Grow.out g1.f hp)) (g1.all.free hp) (g1.f.free hp) upd_same d1⟩
theorem el_listL (ha : Ev K te l (.list ds)) : EvL K (tCB (rListK K) (tCons te tNil)) l ds := fun H0 S H s e hs Q q =>
  ha H0 S H s e hs _ fun v S1 H1 g1 d1 => by
    cases d1 with
    | lst h1 h2 => exact ⟨_, _, rfl, .inl (g1.f.seq h1), fun p hp => q p S1 _ _ (g1.trans (Grow.out g1.f hp)) (g1.all.free hp) (g1.f.free hp) upd_same h2⟩
theorem el_listT (ha : Ev K te l (.tuple ds)) : EvL K (tCB (rListK K) (tCons te tNil)) l ds := fun H0 S H s e hs Q q =>
  ha H0 S H s e hs _ fun v S1 H1 g1 d1 => by
    cases d1 with
    | tup h1 h2 => exact ⟨_, _, rfl, .inr (same_seqT g1.f h1), fun p hp => q p S1 _ _ (g1.trans (Grow.out g1.f hp)) (g1.all.free hp) (g1.f.free hp) upd_same h2⟩
end
end Dz

namespace Dz
open PySem L2 RZ

section
variable {K : PySem.W.Frag} {l l' : List Sl} {ta tb te : TE} {t u : TT} {a b c d : PyData} {r : R2} {ds : List PyData} {i : Nat} {o : Addr}
/-! ### a list of one's own, read -/
theorem ev_ixO {k : Int} (h : l[i]? = some (.own o ds)) (hb : Ev K tb l (.int k)) (e : atI ds k = some d) : Ev K (tOp (rIx K) (tVar i) tb) l d := fun H0 S H s en hs Q q => by
  obtain ⟨v, hv, rfl, h0, hS, xs, hx, hd⟩ := en.ok i _ h
  refine ⟨_, hv, hb H0 S H s en hs _ fun y S1 H1 g1 d1 => ?_⟩
  cases d1
  obtain ⟨w, hw, hdw⟩ := atI_map (DpAll_mono hd g1.s) e
  exact .inl ⟨o, xs, k, w, rfl, rfl, .inl (.inl (g1.all o _ hx)), hw, q w S1 H1 g1 hdw⟩
theorem ev_lenO (h : l[i]? = some (.own o ds)) : Ev K (tCB (rLenK K) (tCons (tVar i) tNil)) l (.int ds.length) := fun H0 S H s en hs Q q => by
  obtain ⟨v, hv, rfl, h0, hS, xs, hx, hd⟩ := en.ok i _ h
  exact ⟨_, hv, o, xs, rfl, .inl (.inl (.inl hx)), q _ S H (Grow.refl hs) (by rw [DpAll_len hd]; exact .int _)⟩
theorem et_truthO (h : l[i]? = some (.own o ds)) : EvT K (fun σ H Q => tVar i σ H fun x H' => ∃ k, TruV K x H' k ∧ Q k H') l (!ds.isEmpty) := fun H0 S H s en hs Q q => by
  obtain ⟨v, hv, rfl, h0, hS, xs, hx, hd⟩ := en.ok i _ h
  exact ⟨_, hv, _, .inl ⟨xs, .inl (.inl hx), by rw [isEmpty_dp hd]⟩, q S H (Grow.refl hs)⟩
theorem ev_slO {tl th : TO} {lo hi : Option Int} (h : l[i]? = some (.own o ds)) (h1 : EvO K tl l lo) (h2 : EvO K th l hi) : Ev K (tSl (rSlAny K) (tVar i) tl th) l (.list (cutD ds lo hi)) := fun H0 S H s en hs Q q => by
  obtain ⟨v, hv, rfl, h0, hS, xs, hx, hd⟩ := en.ok i _ h
  refine ⟨_, hv, h1 H0 S H s en hs _ fun S1 H1 g1 => h2 H0 S1 H1 s (en.grow g1) g1.f _ fun S2 H2 g2 => ?_⟩
  exact .inl ⟨o, xs, rfl, .inl (.inl ((g1.trans g2).all o _ hx)), new_lst g2.f (cut_dp (DpAll_mono hd (g1.s.trans g2.s)) lo hi) fun v S' H' g d => q v S' H' ((g1.trans g2).trans g) d⟩
theorem ev_inO {neg : Bool} (ha : Ev K ta l a) (h : l[i]? = some (.own o ds)) (f : flatD a = true) (fs : ds.all flatD = true) : Ev K (tOp (rIn K neg) ta (tVar i)) l (.bool (if neg then !inF a ds else inF a ds)) := fun H0 S H s en hs Q q =>
  ha H0 S H s en hs _ fun x S1 H1 g1 d1 => by
    obtain ⟨v, hv, rfl, h0, hS, xs, hx, hd⟩ := (en.grow g1).ok i _ h
    refine ⟨_, hv, o, xs, rfl, .inl (.inl (.inl hx)), flat_dp d1 f, flats_dp hd fs, ?_⟩
    rw [in_dp d1 f hd fs]
    exact q _ S1 H1 g1 (.bl _)
/-- tuple(xs), list(xs) of one's own -/
theorem ev_tupleO (h : l[i]? = some (.own o ds)) : Ev K (tCB (rTupleK K) (tCons (tVar i) tNil)) l (.tuple ds) := fun H0 S H s en hs Q q => by
  obtain ⟨v, hv, rfl, h0, hS, xs, hx, hd⟩ := en.ok i _ h
  exact ⟨_, hv, o, xs, rfl, .inl ⟨.inl (.inl hx), new_tup hs hd q⟩⟩

/-! ### the state of a def's body -/
structure Cn where
  K : PySem.W.Frag
  m : Addr → Prop
  S0 : Hp
  H0 : Hp
  Sb : Hp
structure At (C : Cn) (l : List Sl) (s : L2.St) (H : Hp) : Prop where
  ex : ∃ S, Grow C.m C.S0 C.H0 S H ∧ Env C.K C.H0 S H s l ∧ Same C.Sb S
  tw : ∀ t n, Sl.town t n ∈ l → C.m t
inductive Weak : List Sl → List Sl → Prop
  | nil : Weak [] []
  | same {x : Sl} {l l' : List Sl} : Weak l l' → Weak (x :: l) (x :: l')
  | no {x : Sl} {l l' : List Sl} : Weak l l' → Weak (x :: l) (.no :: l')
theorem Weak.len (h : Weak l l') : l.length = l'.length := by
  induction h with
  | nil => rfl
  | same _ ih => simp [ih]
  | no _ ih => simp [ih]
theorem Weak.get (h : Weak l l') : ∀ {j : Nat} {x : Sl}, l'[j]? = some x → x = .no ∨ l[j]? = some x := by
  induction h with
  | nil => intro j x e; simp at e
  | same _ ih =>
    intro j x e
    cases j with
    | zero => simp at e; exact .inr (by simpa using e)
    | succ j => simpa using ih (by simpa using e)
  | no _ ih =>
    intro j x e
    cases j with
    | zero => simp at e; exact .inl e.symm
    | succ j => simpa using ih (by simpa using e)
theorem Weak.muts (h : Weak l l') : (muts l').Sublist (muts l) := by
  induction h with
  | nil => exact List.Sublist.refl _
  | @same x l l' _ ih =>
    show (List.filterMap Sl.adr (x :: l')).Sublist (List.filterMap Sl.adr (x :: l))
    rw [List.filterMap_cons, List.filterMap_cons]
    cases x.adr with
    | none => exact ih
    | some y => exact ih.cons₂ _
  | @no x l l' _ ih =>
    show (List.filterMap Sl.adr (.no :: l')).Sublist (List.filterMap Sl.adr (x :: l))
    rw [List.filterMap_cons, List.filterMap_cons]
    show (List.filterMap Sl.adr l').Sublist _
    cases x.adr with
    | none => exact ih
    | some y => exact ih.cons _
theorem Env.weak {H0 S H : Hp} {s : L2.St} (h : Env K H0 S H s l) (w : Weak l l') : Env K H0 S H s l' :=
  ⟨h.len.trans w.len, fun j x e => by
    rcases w.get e with rfl | e'
    · have hj : j < s.length := by
        rw [h.len, w.len]
        exact (List.getElem?_eq_some_iff.mp e).1
      exact ⟨s[j], List.getElem?_eq_getElem hj, trivial⟩
    · exact h.ok j x e', w.muts.nodup h.nd⟩
end
section
variable {C : Cn} {l l' : List Sl} {ta tb te : TE} {t u : TT} {a b c d : PyData} {ds : List PyData} {i : Nat} {o : Addr} {s : L2.St} {H : Hp} {D : Ends} {tu tv : TS} {x y : Sl}
theorem At.weak (h : At C l s H) (w : Weak l l') : At C l' s H := by
  obtain ⟨S, g, e, b⟩ := h.ex
  refine ⟨⟨S, g, e.weak w, b⟩, fun t n hm => ?_⟩
  obtain ⟨j, hj⟩ := List.mem_iff_getElem?.mp hm
  rcases w.get hj with q | q
  · cases q
  · exact h.tw t n (List.mem_of_getElem? q)
theorem tw_set {m : Addr → Prop} (h : ∀ t n, Sl.town t n ∈ l → m t) (hx : ∀ t n, y ≠ .town t n) : ∀ t n, Sl.town t n ∈ l.set i y → m t := fun t n hm => by
  rcases List.mem_or_eq_of_mem_set hm with q | q
  · exact h t n q
  · exact absurd q.symm (hx t n)
/-- one step of evaluation -/
theorem At.step {v : V} (h : At C l s H) (he : Ev C.K te l d) {Q : VK} (q : ∀ v S' H', Grow C.m C.S0 C.H0 S' H' → Env C.K C.H0 S' H' s l → Same C.Sb S' → Dp C.K S' v d → Q v H') : te s H Q := by
  obtain ⟨S, g, e, b⟩ := h.ex
  exact he C.H0 S H s e g.f Q fun v S' H' g1 d1 => q v S' H' (g.trans g1.any) (e.grow g1) (b.trans g1.s) d1
theorem d_asg (h : At C l s H) (he : Ev C.K te l d) (k : ∀ s' H', At C (l.set i (.dat d)) s' H' → D.nx s' H') : tAsg te (gName i) D s H :=
  h.step (v := .non) he fun v S' H' g e b d1 => k _ _ ⟨⟨S', g, e.dat d1, b⟩, tw_set h.tw fun _ _ z => nomatch z⟩
/-- a target of any form -/
theorem d_asgB {g : TG} (h : At C l s H) (he : Ev C.K te l d) (hb : Bd C.K g l d l') (ht : ∀ t n, Sl.town t n ∈ l' → Sl.town t n ∈ l) (k : ∀ s' H', At C l' s' H' → D.nx s' H') : tAsg te g D s H :=
  h.step (v := .non) he fun v S' H' g1 e b d1 => hb C.H0 S' H' s v _ e g1.f d1 fun s' e' => k _ _ ⟨⟨S', g1, e', b⟩, fun t n q => h.tw t n (ht t n q)⟩
theorem d_asgL (h : At C l s H) (he : EvL C.K te l ds) (k : ∀ p s' H', At C (l.set i (.own p ds)) s' H' → D.nx s' H') : tAsg te (gName i) D s H := by
  obtain ⟨S, g, e, b⟩ := h.ex
  refine he C.H0 S H s e g.f _ fun p S' H' xs g1 hp sp hx hd => ?_
  have e' := e.grow g1
  have h0 : C.H0 p = none := by
    cases hq : C.H0 p with
    | none => rfl
    | some u => exact absurd hp (g.d p (some_ne hq))
  have hm : p ∉ muts l := fun z => (e.there z).1 hp
  exact k p _ _ ⟨⟨S', g.trans g1.any, e'.fresh rfl hm ⟨rfl, h0, sp, xs, hx, hd⟩, b.trans g1.s⟩, tw_set h.tw fun _ _ z => nomatch z⟩
theorem d_ret (h : At C l s H) (he : Ev C.K te l d) (k : ∀ v S' H', Grow C.m C.S0 C.H0 S' H' → Dp C.K S' v d → D.rt v H') : tRet te D s H :=
  h.step (v := .non) he fun v S' H' g e b d1 => k v S' H' g d1
theorem d_drop (h : At C l s H) (he : Ev C.K te l d) (k : ∀ H', At C l s H' → D.nx s H') : tDrop te D s H :=
  h.step (v := .non) he fun v S' H' g e b d1 => k H' ⟨⟨S', g, e, b⟩, h.tw⟩
theorem d_if {k : Bool} (h : At C l s H) (he : EvT C.K t l k) (h1 : k = true → ∀ H', At C l s H' → tu D s H') (h2 : k = false → ∀ H', At C l s H' → tv D s H') : tIfS t tu tv D s H := by
  obtain ⟨S, g, e, b⟩ := h.ex
  refine he C.H0 S H s e g.f _ fun S' H' g1 => ?_
  have h' : At C l s H' := ⟨⟨S', g.trans g1.any, e.grow g1, b.trans g1.s⟩, h.tw⟩
  cases k with
  | true =>
    show tu D s H'
    exact h1 rfl H' h'
  | false =>
    show tv D s H'
    exact h2 rfl H' h'
theorem d_freeze (h : At C l s H) (hi : l[i]? = some (.own o ds)) : At C (l.set i (.dat (.list ds))) s H := by
  obtain ⟨S, g, e, b⟩ := h.ex
  obtain ⟨v, hv, rfl, h0, hS, xs, hx, hd⟩ := e.ok i _ hi
  have hm : Same S (upd S o (.lst xs)) := same_up hS
  refine ⟨⟨upd S o (.lst xs), g.take h0 hx hS, ⟨by rw [List.length_set]; exact e.len, fun j z ej => ?_, (muts_set_sub l i _ rfl).nodup e.nd⟩, b.trans hm⟩, tw_set h.tw fun _ _ z => nomatch z⟩
  by_cases hij : i = j
  · subst hij
    have hl : i < l.length := (List.getElem?_eq_some_iff.mp hi).1
    rw [List.getElem?_set_self hl] at ej
    cases ej
    exact ⟨_, hv, .ref o, rfl, .lst (.inl (.inl upd_same)) (DpAll_mono hd hm)⟩
  · rw [List.getElem?_set_ne hij] at ej
    obtain ⟨w, hw, ok⟩ := e.ok j z ej
    refine ⟨w, hw, ?_⟩
    have na : ∀ a, z.adr = some a → a ≠ o := fun a ha z' => by
      subst z'
      exact hij (nodup_eq (ys := []) e.nd hi ej rfl ha)
    cases z with
    | no => trivial
    | dat d => obtain ⟨w', e1, e2⟩ := ok; exact ⟨w', e1, Dp_mono e2 hm⟩
    | own o2 es => obtain ⟨e1, e2, e3, ys, e4, e5⟩ := ok; exact ⟨e1, e2, by rw [upd_ne (na _ rfl)]; exact e3, ys, e4, DpAll_mono e5 hm⟩
    | val w' => exact ok
    | town t n => obtain ⟨e1, e2, e3⟩ := ok; exact ⟨e1, by rw [upd_ne (na _ rfl)]; exact e2, e3⟩
    | dct o2 es => obtain ⟨e1, e2, e3, ys, e4, e5⟩ := ok; exact ⟨e1, e2, by rw [upd_ne (na _ rfl)]; exact e3, ys, e4, e5.mono hm⟩
/-- the list of a slot is changed in the heap -/
theorem At.put {es : List PyData} {S H' : Hp} {ys : List V} (tw : ∀ t n, Sl.town t n ∈ l → C.m t) (g : Grow C.m C.S0 C.H0 S H) (e : Env C.K C.H0 S H s l) (b : Same C.Sb S) (hi : l[i]? = some (.own o ds)) (hd : DpAll C.K S ys es) :
    At C (l.set i (.own o es)) s (upd H o (.lst ys)) := by
  obtain ⟨v, hv, rfl, h0, hS, xs, hx, _⟩ := e.ok i _ hi
  have hk : ∀ c w, c ≠ o → H c = some w → upd H o (.lst ys) c = some w := fun c w hc hw => by rw [upd_ne hc]; exact hw
  refine ⟨⟨S, g.putNew h0 hS (some_ne hx), e.put hi rfl rfl (Same.refl S) (fun _ z _ => z) hk fun v ok => ?_, b⟩, tw_set tw fun _ _ z => nomatch z⟩
  obtain ⟨e1, e2, e3, _⟩ := ok
  exact ⟨e1, e2, e3, ys, upd_same, hd⟩
theorem d_app (h : At C l s H) (hi : l[i]? = some (.own o ds)) (he : Ev C.K te l d) (hz : ds.length < 100000) (k : ∀ H', At C (l.set i (.own o (ds ++ [d]))) s H' → D.nx s H') : tDrop (tBM C.K "list" rAppend (tVar i) (tCons te tNil)) D s H := by
  obtain ⟨S, g, e, b⟩ := h.ex
  obtain ⟨v, hv, rfl, h0, hS, xs, hx, hd⟩ := e.ok i _ hi
  refine ⟨_, hv, .inl ⟨rfl, xs, .inl (.inl hx)⟩, he C.H0 S H s e g.f _ fun y S1 H1 g1 d1 => ?_⟩
  refine ⟨o, xs, y, rfl, rfl, g1.all o _ hx, szt (by rw [DpAll_len hd]; exact hz), k _ ?_⟩
  exact At.put (H' := H1) h.tw (g.trans g1.any) (e.grow g1) (b.trans g1.s) hi (DpAll_app (DpAll_mono hd g1.s) (.cons d1 .nil))
/-- xs[j] = e -/
theorem d_setL {j : Nat} (h : At C l s H) (hi : l[i]? = some (.own o ds)) (he : Ev C.K te l d) (hj : Ev C.K tb l (.int (j : Int))) (hz : j < ds.length) (k : ∀ H', At C (l.set i (.own o (ds.set j d))) s H' → D.nx s H') : tAsg te (gSub (tVar i) tb rSetL) D s H := by
  obtain ⟨S, g, e, b⟩ := h.ex
  refine he C.H0 S H s e g.f _ fun y S1 H1 g1 d1 => ?_
  obtain ⟨v, hv, rfl, h0, hS, xs, hx, hd⟩ := (e.grow g1).ok i _ hi
  refine ⟨_, hv, hj C.H0 S1 H1 s (e.grow g1) g1.f _ fun z S2 H2 g2 d2 => ?_⟩
  cases d2
  have hl := DpAll_len hd
  refine ⟨o, xs, (j : Int), j, rfl, rfl, g2.all o _ hx, by unfold ixN; rw [if_pos (by omega), if_pos (by omega)]; simp, k _ ?_⟩
  exact At.put (H' := H2) h.tw (g.trans (g1.trans g2).any) (e.grow (g1.trans g2)) (b.trans (g1.s.trans g2.s)) hi (DpAll_set (Dp_mono d1 g2.s) j (DpAll_mono hd g2.s))
/-! ### loops -/
abbrev Cn.at_ (C : Cn) (S : Hp) : Cn := { C with Sb := S }
/-- over a walk; x: what the loop carries, lf x: the environment between two turns -/
theorem d_forG {α : Type} {wi : TI} {g : TG} (h : At C l s H) (hi : EvI C.K wi l ds) (lf : α → List Sl) (I : Nat → α → Prop) (x0 : α) (h0 : I 0 x0) (hw : Weak l (lf x0))
    (step : ∀ i x d S, ds[i]? = some d → I i x → ∃ lb, Bd C.K g (lf x) d lb ∧ (∀ t n, Sl.town t n ∈ lb → Sl.town t n ∈ lf x) ∧ ∀ s H, At (C.at_ S) lb s H →
      tu { D with nx := fun s' H' => ∃ y, I (i + 1) y ∧ At (C.at_ S) (lf y) s' H', ct := fun s' H' => ∃ y, I (i + 1) y ∧ At (C.at_ S) (lf y) s' H', bk := D.nx } s H)
    (fin : ∀ x s H, I ds.length x → At C (lf x) s H → D.nx s H) : tFor wi g tu D s H := by
  obtain ⟨S, g0, e, b⟩ := h.ex
  refine hi C.H0 S H s e g0.f _ fun J S1 H1 g1 w => ?_
  refine ⟨fun i m s' H' => m = ds.length - i ∧ i ≤ ds.length ∧ ∃ x, I i x ∧ At (C.at_ S1) (lf x) s' H', ⟨ds.length, by simp, Nat.zero_le _, x0, h0, ⟨S1, g0.trans g1.any, (e.grow g1).weak hw, Same.refl S1⟩, ?_⟩, ?_⟩
  · intro t n hm
    obtain ⟨j, hj⟩ := List.mem_iff_getElem?.mp hm
    rcases hw.get hj with q | q
    · cases q
    · exact h.tw t n (List.mem_of_getElem? q)
  rintro i m s' H' ⟨rfl, hle, x, hI, hA⟩
  obtain ⟨S2, g2, e2, b2⟩ := hA.ex
  by_cases hlt : i < ds.length
  · refine .inr ⟨w.go i H' hlt (b2.trans g2.f), fun s' H' => i + 1 ≤ ds.length ∧ ∃ x, I (i + 1) x ∧ At (C.at_ S1) (lf x) s' H', fun s3 H3 ⟨q1, q2⟩ => ⟨ds.length - (i + 1), by omega, rfl, q1, q2⟩, fun v H3 y => ?_⟩
    have hd : ds[i]? = some ds[i] := List.getElem?_eq_getElem hlt
    obtain ⟨S3, g3, d3⟩ := w.yld i H' v H3 ds[i] S2 hd b2 g2.f y
    obtain ⟨lb, hb, hbt, body⟩ := step i x ds[i] S1 hd hI
    refine hb C.H0 S3 H3 s' v _ (e2.grow g3) g3.f d3 fun s4 e4 => ?_
    have := body s4 H3 ⟨⟨S3, g2.trans g3.any, e4, b2.trans g3.s⟩, fun t n q => hA.tw t n (hbt t n q)⟩
    have en : (fun s' H' => ∃ y, I (i + 1) y ∧ At (C.at_ S1) (lf y) s' H') = fun s' H' => i + 1 ≤ ds.length ∧ ∃ x, I (i + 1) x ∧ At (C.at_ S1) (lf x) s' H' := by
      funext s' H'
      exact propext ⟨fun q => ⟨hlt, q⟩, fun q => q.2⟩
    rw [en] at this
    exact this
  · have ei : i = ds.length := by omega
    subst ei
    exact .inl ⟨w.stop H' (b2.trans g2.f), fin x s' H' hI ⟨⟨S2, g2, e2, (b.trans g1.s).trans b2⟩, hA.tw⟩⟩
theorem d_for {α : Type} {wi : TI} {g : TG} (h : At C l s H) (hi : EvI C.K wi l ds) (lf : α → List Sl) (I : Nat → α → Prop) (lb : α → PyData → List Sl) (x0 : α) (h0 : I 0 x0) (hw : Weak l (lf x0))
    (hb : ∀ i x d, ds[i]? = some d → I i x → Bd C.K g (lf x) d (lb x d)) (hbt : ∀ x d t n, Sl.town t n ∈ lb x d → Sl.town t n ∈ lf x)
    (step : ∀ i x d S s H, ds[i]? = some d → I i x → At (C.at_ S) (lb x d) s H → tu { D with nx := fun s' H' => ∃ y, I (i + 1) y ∧ At (C.at_ S) (lf y) s' H', ct := fun s' H' => ∃ y, I (i + 1) y ∧ At (C.at_ S) (lf y) s' H', bk := D.nx } s H)
    (fin : ∀ x s H, I ds.length x → At C (lf x) s H → D.nx s H) : tFor wi g tu D s H :=
  d_forG h hi lf I x0 h0 hw (fun i x d S hd hI => ⟨lb x d, hb i x d hd hI, hbt x d, fun s H A => step i x d S s H hd hI A⟩) fin
/-- while: x what the loop carries, mu its measure -/
theorem d_while {α : Type} (h : At C l s H) (lf : α → List Sl) (I : α → Prop) (mu : α → Nat) (bt : α → Bool) (x0 : α) (h0 : I x0) (hw : Weak l (lf x0)) (ht : ∀ x, I x → EvT C.K t (lf x) (bt x))
    (step : ∀ x s H, I x → bt x = true → At C (lf x) s H → tu { D with nx := fun s' H' => ∃ y, I y ∧ mu y < mu x ∧ At C (lf y) s' H', ct := fun s' H' => ∃ y, I y ∧ mu y < mu x ∧ At C (lf y) s' H', bk := D.nx } s H)
    (fin : ∀ x s H, I x → bt x = false → At C (lf x) s H → D.nx s H) : tWhile t tu D s H := by
  refine ⟨fun m s' H' => ∃ x, I x ∧ m = mu x ∧ At C (lf x) s' H', ⟨mu x0, x0, h0, rfl, h.weak hw⟩, ?_⟩
  rintro m s' H' ⟨x, hI, rfl, hA⟩
  obtain ⟨S, g, e, b⟩ := hA.ex
  refine ht x hI C.H0 S H' s' e g.f _ fun S1 H1 g1 => ?_
  have hA1 : At C (lf x) s' H1 := ⟨⟨S1, g.trans g1.any, e.grow g1, b.trans g1.s⟩, hA.tw⟩
  cases hk : bt x with
  | true =>
    rw [if_pos rfl]
    exact ⟨_, fun s3 H3 ⟨y, q1, q2, q3⟩ => ⟨mu y, q2, y, q1, rfl, q3⟩, step x s' H1 hI hk hA1⟩
  | false =>
    rw [if_neg Bool.false_ne_true]
    exact fin x s' H1 hI hk hA1
end
/-! ### the start of a def -/
theorem env_nil {K : PySem.W.Frag} {H0 S H : Hp} : Env K H0 S H [] [] := ⟨rfl, fun i x e => by simp at e, List.nodup_nil⟩
theorem env_cons {K : PySem.W.Frag} {H0 S H : Hp} {s : L2.St} {l : List Sl} {v : Option V} {x : Sl} (h : Env K H0 S H s l) (hx : x.adr = none) (ok : SlOk K H0 S H x v) : Env K H0 S H (v :: s) (x :: l) :=
  ⟨by simp [h.len], fun i y e => by
    cases i with
    | zero => simp at e; subst e; exact ⟨v, rfl, ok⟩
    | succ i => simpa using h.ok i y (by simpa using e), by
    show (List.filterMap Sl.adr (x :: l)).Nodup
    rw [List.filterMap_cons, hx]
    exact h.nd⟩
theorem env_no {K : PySem.W.Frag} {H0 S H : Hp} {s : L2.St} {l : List Sl} {v : Option V} (h : Env K H0 S H s l) : Env K H0 S H (v :: s) (.no :: l) := env_cons h rfl trivial
theorem env_dat {K : PySem.W.Frag} {H0 S H : Hp} {s : L2.St} {l : List Sl} {v : V} {d : PyData} (hd : Dp K S v d) (h : Env K H0 S H s l) : Env K H0 S H (some v :: s) (.dat d :: l) := env_cons h rfl ⟨v, rfl, hd⟩
theorem env_val {K : PySem.W.Frag} {H0 S H : Hp} {s : L2.St} {l : List Sl} {v : V} (h : Env K H0 S H s l) : Env K H0 S H (some v :: s) (.val v :: l) := env_cons h rfl rfl
/-- the town, where no other object of a slot stands -/
theorem env_town {K : PySem.W.Frag} {H0 S H : Hp} {s : L2.St} {l : List Sl} {t : Addr} {n : Nat} (h : Env K H0 S H s l) (hm : muts l = []) (hs : S t = none) (ht : TownAt H t n) : Env K H0 S H (some (.ref t) :: s) (.town t n :: l) :=
  ⟨by simp [h.len], fun i y e => by
    cases i with
    | zero => simp at e; subst e; exact ⟨_, rfl, rfl, hs, ht⟩
    | succ i => simpa using h.ok i y (by simpa using e), by
    show (List.filterMap Sl.adr (.town t n :: l)).Nodup
    rw [List.filterMap_cons]
    have : List.filterMap Sl.adr l = [] := hm
    show (t :: List.filterMap Sl.adr l).Nodup
    rw [this]
    simp⟩
/-- the promise of a def that takes data and gives data -/
def spF (K : PySem.W.Frag) (pre : List PyData → Prop) (res : List PyData → PyData) : Sp := fun vs H Q _ => ∃ S ds, Same S H ∧ DpAll K S vs ds ∧ pre ds ∧ ∀ v S' H', Grow m0 S H S' H' → Dp K S' v (res ds) → Q v H'
theorem sp_of {K : PySem.W.Frag} {pre : List PyData → Prop} {res : List PyData → PyData} {ds : List PyData} {c : PyData} (hp : pre ds) (hc : res ds = c) : SpD K (spF K pre res) ds c := fun vs S H Q E hs hd q => ⟨S, ds, hs, hd, hp, by rw [hc]; exact q⟩
end Dz

namespace Dz
open PySem PySem.SeqAt PyProof.Rows L2 RZ

/-! ### rules for any kind of value -/
theorem OpR_or {X : Cx} {f : Value → Value → Sem Value} {r r' : R2} (h : OpR X f r) (h' : OpR X f r') : OpR X f (fun x y H Q => r x y H Q ∨ r' x y H Q) := fun pins s σ H x y v u Q I rx ry q =>
  q.elim (fun q => h pins s σ H x y v u Q I rx ry q) fun q => h' pins s σ H x y v u Q I rx ry q
theorem SlR_or {X : Cx} {r r' : V → Option Int → Option Int → Hp → VK → Prop} (h : SlR X r) (h' : SlR X r') : SlR X (fun x lo hi H Q => r x lo hi H Q ∨ r' x lo hi H Q) := fun pins s σ H x v vl vu lo hi sl Q I rx hs pl pu q =>
  q.elim (fun q => h pins s σ H x v vl vu lo hi sl Q I rx hs pl pu q) fun q => h' pins s σ H x v vl vu lo hi sl Q I rx hs pl pu q
theorem sl_any {X : Cx} : SlR X (rSlAny X.K) := SlR_or sl_list sl_tupA
/-- list + list, whichever they are -/
def rCatL (K : PySem.W.Frag) : R2 := fun x y H Q => ∃ l b xs zs, x = .ref l ∧ y = .ref b ∧ SqL K H l xs ∧ SqL K H b zs ∧ xs.length + zs.length ≤ sizeLine ∧ ∀ p, H p = none → Q (.ref p) (upd H p (.lst (xs ++ zs)))
theorem op_catL {X : Cx} : OpR X (binaryOp .Add) (rCatL X.K) := by
  intro pins s σ H x y v u Q I rx ry h
  obtain ⟨l, b, xs, zs, rfl, rfl, hH, hB, hz, q⟩ := h
  cases rx
  cases ry
  obtain ⟨its, r, pl, z⟩ := I.list hH
  obtain ⟨its2, r2, pl2, z2⟩ := I.list hB
  obtain ⟨⟨cls, dd, data, sl⟩, ho, hc, n, hd⟩ := id pl.isList
  obtain ⟨⟨cls2, dd2, data2, sl2⟩, ho2, hc2, n2, hd2⟩ := id pl2.isList
  simp only at hc hd hc2 hd2
  subst hc hd hc2 hd2
  have e1 := r.length
  have e2 := r2.length
  have e : its.toArray ++ its2.toArray = (its ++ its2).toArray := by simp
  refine concat_meets ⟨_, ho, rfl⟩ ⟨_, ho2, rfl⟩ noFill_list_add seq_list_add PySem.F.slot_list_add PySem.F.entry_list_add (PySem.F.args_list_add_2 _ _) (PyProof.Rows.list_addW l b its.toArray its2.toArray n n2 dd dd2 sl sl2 (by simp only [List.size_toArray]; omega)) ⟨ho, ho2, ?_⟩
  rw [e]
  exact ⟨.ref _, _, I.lnew (t' := s.toks) (r.append r2) (by rw [List.length_append]; omega), rfl, q _ I.fresh⟩
def rAddS : R2 := fun x y H Q => ∃ i j, x = .str i ∧ y = .str j ∧ i.length + j.length ≤ sizeLine ∧ Q (.str (i ++ j)) H
/-- a + b -/
def rPlus (K : PySem.W.Frag) : R2 := fun x y H Q => rI0 (fun i j => .int (i + j)) x y H Q ∨ (rCatL K x y H Q ∨ (rCatA K x y H Q ∨ rAddS x y H Q))
theorem op_plus {X : Cx} : OpR X (binaryOp .Add) (rPlus X.K) := OpR_or op_add (OpR_or op_catL (OpR_or op_catA op_add_str))
/-- a * b -/
def rTimes : R2 := fun x y H Q => rI CMul (fun i j => .int (i * j)) x y H Q ∨ rRep x y H Q
theorem op_times {X : Cx} : OpR X (binaryOp .Mult) rTimes := OpR_or op_mul op_rep
/-- a == b, a != b -/
def rEqA (K : PySem.W.Frag) : R2 := fun x y H Q => rEq x y H Q ∨ rEqD K x y H Q
def rNeA (K : PySem.W.Frag) : R2 := fun x y H Q => rNe x y H Q ∨ rNeD K x y H Q
theorem op_eqA {X : Cx} (hu : X.A.units + 64 < cLine) : OpR X (compareOp .Eq) (rEqA X.K) := OpR_or op_eq (op_eqD hu)
theorem op_neA {X : Cx} (hu : X.A.units + 64 < cLine) : OpR X (compareOp .NotEq) (rNeA X.K) := OpR_or op_ne (op_neD hu)
section
variable {K : PySem.W.Frag} {a b c : PyData} {r r' : R2} {l : List Sl} {ta tb te : TE}
theorem rd_l (h : RD K r a b c) : RD K (fun x y H Q => r x y H Q ∨ r' x y H Q) a b c := fun x y S H Q hs hx hy q => .inl (h x y S H Q hs hx hy q)
theorem rd_r (h : RD K r' a b c) : RD K (fun x y H Q => r x y H Q ∨ r' x y H Q) a b c := fun x y S H Q hs hx hy q => .inr (h x y S H Q hs hx hy q)
theorem rd_plusI {i j : Int} : RD K (rPlus K) (.int i) (.int j) (.int (i + j)) := rd_l (rd_I0 fun _ => .int _)
theorem rd_plusL {xs ys : List PyData} (hz : xs.length + ys.length ≤ 100000) : RD K (rPlus K) (.list xs) (.list ys) (.list (xs ++ ys)) := rd_r (rd_l fun x y S H Q hs hx hy q => by
  cases hx with
  | lst h1 h2 =>
    cases hy with
    | lst h3 h4 => exact ⟨_, _, _, _, rfl, rfl, hs.seq h1, hs.seq h3, szl (by rw [DpAll_len h2, DpAll_len h4]; exact hz), new_lst hs (DpAll_app h2 h4) q⟩)
theorem rd_plusT {xs ys : List PyData} (hz : xs.length + ys.length ≤ 100000) : RD K (rPlus K) (.tuple xs) (.tuple ys) (.tuple (xs ++ ys)) := rd_r (rd_r (rd_l fun x y S H Q hs hx hy q => by
  cases hx with
  | tup h1 h2 =>
    cases hy with
    | tup h3 h4 =>
      refine ⟨_, _, _, _, rfl, rfl, same_seqT hs h1, same_seqT hs h3, szl (by rw [DpAll_len h2, DpAll_len h4]; exact hz), fun e => ?_, fun _ e => ?_, fun _ _ => new_tup hs (DpAll_app h2 h4) q⟩
      · subst e
        cases h2
        exact q _ S H (Grow.refl hs) (.tup h3 h4)
      · subst e
        cases h4
        rw [List.append_nil] at q
        exact q _ S H (Grow.refl hs) (.tup h1 h2)))
theorem rd_plusS {i j : Str} (hz : i.length + j.length ≤ 100000) : RD K (rPlus K) (.str i) (.str j) (.str (i ++ j)) := rd_r (rd_r (rd_r fun x y S H Q hs hx hy q => by
  cases hx
  cases hy
  exact ⟨i, j, rfl, rfl, szl hz, q _ S H (Grow.refl hs) (.str _)⟩))
theorem rd_timesI {i j : Int} (h : CMul i j) : RD K rTimes (.int i) (.int j) (.int (i * j)) := rd_l (rd_I h fun _ => .int _)
/-- [..] * n -/
theorem ev_rep {tr : TA} {ds : List PyData} {k : Int} (ha : EvA K tr l ds) (hb : Ev K tb l (.int k)) (hk : k ≤ 1000 ∧ -1000 ≤ k) (hd : ds.length ≤ 100) : Ev K (tOp rTimes (tLst tr) tb) l (.list (List.replicate k.toNat ds).flatten) := fun H0 S H s e hs Q q =>
  ha H0 S H s e hs _ fun xs S1 H1 g1 d1 => ⟨by rw [DpAll_len d1]; exact szl (by omega), fun p hp => by
    have g2 : Grow m0 S1 H1 (upd S1 p (.lst xs)) (upd H1 p (.lst xs)) := Grow.new g1.f hp
    refine hb H0 _ _ s (e.grow (g1.trans g2)) g2.f _ fun y S3 H3 g3 d3 => ?_
    cases d3
    have hl := DpAll_len d1
    refine .inr ⟨p, k, xs, rfl, rfl, g3.all p _ upd_same, by omega, by omega, ?_, ?_⟩
    · refine szl (Nat.le_trans (Nat.mul_le_mul (show xs.length ≤ 100 by omega) (show k.toNat ≤ 1000 by omega)) (by decide))
    · have hrep : ∀ n : Nat, DpAll K S3 (List.replicate n xs).flatten (List.replicate n ds).flatten := fun n => by
        induction n with
        | zero => exact .nil
        | succ n ih =>
          rw [List.replicate_succ, List.replicate_succ, List.flatten_cons, List.flatten_cons]
          exact DpAll_app (DpAll_mono d1 (g2.s.trans g3.s)) ih
      exact new_lst g3.f (hrep _) fun v S' H' g d => q v S' H' (((g1.trans g2).trans g3).trans g) d⟩
theorem rd_eqA (h : RD K rEq a b c) : RD K (rEqA K) a b c := rd_l h
theorem rd_neA (h : RD K rNe a b c) : RD K (rNeA K) a b c := rd_l h
theorem rd_eqD (h1 : SeqAt.shaped a = true) (h2 : SeqAt.shaped b = true) : RD K (rEqA K) a b (.bool (PyData.eqv a b)) := rd_r fun x y S H Q hs hx hy q => ⟨a, b, Dp_mono hx hs, Dp_mono hy hs, h1, h2, q _ S H (Grow.refl hs) (.bl _)⟩
theorem rd_neD (h1 : SeqAt.shaped a = true) (h2 : SeqAt.shaped b = true) : RD K (rNeA K) a b (.bool (!PyData.eqv a b)) := rd_r fun x y S H Q hs hx hy q => ⟨a, b, Dp_mono hx hs, Dp_mono hy hs, h1, h2, q _ S H (Grow.refl hs) (.bl _)⟩
end
/-! ### calls of defs -/
structure Cal (P : Program) (w : World) (K : PySem.W.Frag) (mg : Str → Option Value) (base : Heap) (k : Nat) (x : Str) (ps : List Str) (sp : Sp) : Prop where
  ex : ∃ f fd, FnOk P w K mg base CX0 k f fd ps sp ∧ mg x = some (.ref f) ∧ PySem.W.keepIn K (.ref f) = true ∧ Binds K fd ps []
theorem Cal.mono {P : Program} {w : World} {K : PySem.W.Frag} {mg : Str → Option Value} {base : Heap} {j k : Nat} {x : Str} {ps : List Str} {sp : Sp} (c : Cal P w K mg base j x ps sp) (h : j ≤ k) : Cal P w K mg base k x ps sp := by
  obtain ⟨f, fd, a, b⟩ := c.ex
  exact ⟨f, fd, a.mono h, b⟩
theorem Cal.imp {P : Program} {w : World} {K : PySem.W.Frag} {mg : Str → Option Value} {base : Heap} {k : Nat} {x : Str} {ps : List Str} {sp sp' : Sp} (c : Cal P w K mg base k x ps sp) (h : ∀ vs H Q E, sp' vs H Q E → sp vs H Q E) : Cal P w K mg base k x ps sp' := by
  obtain ⟨f, fd, a, b⟩ := c.ex
  exact ⟨f, fd, a.imp h, b⟩
theorem pe_cal {X : Cx} {k : Nat} {x : Str} {ps : List Str} {sp : Sp} {p pos : Pos} {e : Expr} {es : List Expr} {t : TA} (c : Cal X.prog X.w X.K X.mg X.base k x ps sp) (hr : Room k X.A) (ha : PA X (e :: es) t) (hg : Gl X x := by rfl)
    (hdb : (x == ("__debug__" : Str)) = false := by decide) (he : starEach (e :: es) X.env = (false, eval e X.env) :: starEach es X.env := by rfl) (hpl : (backTo pos (starEach es X.env)).any (·.1) = false := by rfl) :
    PE X (.Call (.Name x p) (e :: es) [] pos) (tCall sp [] E0 t) := by
  obtain ⟨f, fd, F, hm, hk, hb⟩ := c.ex
  exact pe_call F hr hg hm hk hb .nil pass0 ha hdb he hpl
/-! ### draws: the town grows -/
def mt (t : Addr) : Addr → Prop := fun a => a = t
def EvX (K : PySem.W.Frag) (te : TE) (l : List Sl) (it : Nat) (t : Addr) (n : Nat) (R : PyData → Nat → Prop) : Prop := ∀ H0 S H s, Env K H0 S H s l → l[it]? = some (.town t n) → Same S H → ∀ Q : VK,
  (∀ v S' H' d n', R d n' → Grow (mt t) S H S' H' → TownAt H' t n' → Dp K S' v d → Q v H') → te s H Q
def EvXT (K : PySem.W.Frag) (tt : TT) (l : List Sl) (it : Nat) (t : Addr) (n : Nat) (R : Bool → Nat → Prop) : Prop := ∀ H0 S H s, Env K H0 S H s l → l[it]? = some (.town t n) → Same S H → ∀ Q : Bool → Hp → Prop,
  (∀ S' H' b n', R b n' → Grow (mt t) S H S' H' → TownAt H' t n' → Q b H') → tt s H Q
def EvXA (K : PySem.W.Frag) (ta : TA) (l : List Sl) (it : Nat) (t : Addr) (n : Nat) (R : List PyData → Nat → Prop) : Prop := ∀ H0 S H s, Env K H0 S H s l → l[it]? = some (.town t n) → Same S H → ∀ Q : List V → Hp → Prop,
  (∀ v S' H' d n', R d n' → Grow (mt t) S H S' H' → TownAt H' t n' → DpAll K S' v d → Q v H') → ta s H Q
def EvXI (K : PySem.W.Frag) (wi : TI) (l : List Sl) (it : Nat) (t : Addr) (n : Nat) (RI : List PyData → Nat → Prop) : Prop := ∀ H0 S H s, Env K H0 S H s l → l[it]? = some (.town t n) → Same S H → ∀ R : It → Hp → Prop,
  (∀ J S' H' ds n', RI ds n' → Grow (mt t) S H S' H' → TownAt H' t n' → WalkD K J S' ds → R J H') → wi s H R
section
variable {K : PySem.W.Frag} {l l' : List Sl} {ta tb te : TE} {tt tu : TT} {a b c d : PyData} {r : R2} {ds : List PyData} {i it n n' : Nat} {t o : Addr} {H0 S H S' H' : Hp} {s : L2.St}
theorem Env.townAt (e : Env K H0 S H s l) (h : l[it]? = some (.town t n)) : TownAt H t n := by
  obtain ⟨v, _, _, _, q⟩ := e.ok it _ h
  exact q
theorem TownAt.grow (h : TownAt H t n) (g : Grow m0 S H S' H') : TownAt H' t n := by
  obtain ⟨ns, a, b⟩ := h
  exact ⟨ns, g.all _ _ a, b⟩
theorem Env.town (e : Env K H0 S H s l) (h : l[it]? = some (.town t n)) (g : Grow (mt t) S H S' H') (ht : TownAt H' t n') : Env K H0 S' H' s (l.set it (.town t n')) := by
  refine e.put h rfl rfl g.s g.n (fun b u hb hu => g.k b u hb hu) fun v ok => ?_
  obtain ⟨e1, e2, ns, e3, e4⟩ := ok
  exact ⟨e1, g.n t e2 (some_ne e3), ht⟩
theorem town_at (h : l[it]? = some (.town t n)) : (l.set it (.town t n'))[it]? = some (.town t n') := List.getElem?_set_self (List.getElem?_eq_some_iff.mp h).1
theorem ex_mono {R R' : PyData → Nat → Prop} (h : EvX K te l it t n R) (f : ∀ d n', R d n' → R' d n') : EvX K te l it t n R' := fun H0 S H s e hl hs Q q => h H0 S H s e hl hs Q fun v S' H' d n' r => q v S' H' d n' (f d n' r)
theorem ext_mono {R R' : Bool → Nat → Prop} (h : EvXT K tt l it t n R) (f : ∀ d n', R d n' → R' d n') : EvXT K tt l it t n R' := fun H0 S H s e hl hs Q q => h H0 S H s e hl hs Q fun S' H' d n' r => q S' H' d n' (f d n' r)
theorem ex_ev (h : Ev K te l d) : EvX K te l it t n (fun d' n' => d = d' ∧ n = n') := fun H0 S H s e hl hs Q q => h H0 S H s e hs Q fun v S' H' g d1 => q v S' H' d n ⟨rfl, rfl⟩ g.any ((e.townAt hl).grow g) d1
theorem ext_ev {k : Bool} (h : EvT K tt l k) : EvXT K tt l it t n (fun d' n' => k = d' ∧ n = n') := fun H0 S H s e hl hs Q q => h H0 S H s e hs Q fun S' H' g => q S' H' k n ⟨rfl, rfl⟩ g.any ((e.townAt hl).grow g)
theorem exa_ev {ta : TA} (h : EvA K ta l ds) : EvXA K ta l it t n (fun d' n' => ds = d' ∧ n = n') := fun H0 S H s e hl hs Q q => h H0 S H s e hs Q fun v S' H' g d1 => q v S' H' ds n ⟨rfl, rfl⟩ g.any ((e.townAt hl).grow g) d1
theorem exi_ev {wi : TI} (h : EvI K wi l ds) : EvXI K wi l it t n (fun d' n' => ds = d' ∧ n = n') := fun H0 S H s e hl hs Q q => h H0 S H s e hs Q fun J S' H' g w => q J S' H' ds n ⟨rfl, rfl⟩ g.any ((e.townAt hl).grow g) w
theorem ex_op {R1 : PyData → Nat → Prop} {R2 : PyData → Nat → PyData → Nat → Prop} {f : PyData → PyData → PyData} (ha : EvX K ta l it t n R1) (hb : ∀ a n1, R1 a n1 → EvX K tb (l.set it (.town t n1)) it t n1 (R2 a n1))
    (hr : ∀ a n1 b n2, R1 a n1 → R2 a n1 b n2 → RD K r a b (f a b)) : EvX K (tOp r ta tb) l it t n (fun d n' => ∃ a n1 b, R1 a n1 ∧ R2 a n1 b n' ∧ d = f a b) := fun H0 S H s e hl hs Q q =>
  ha H0 S H s e hl hs _ fun x S1 H1 a n1 r1 g1 t1 d1 => hb a n1 r1 H0 S1 H1 s (e.town hl g1 t1) (town_at hl) g1.f _ fun y S2 H2 b n2 r2 g2 t2 d2 =>
    hr a n1 b n2 r1 r2 x y S2 H2 Q g2.f (Dp_mono d1 g2.s) d2 fun v S3 H3 g3 d3 => q v S3 H3 (f a b) n2 ⟨a, n1, b, r1, r2, rfl⟩ ((g1.trans g2).trans g3.any) (t2.grow g3) d3
theorem exa_nil : EvXA K tNil l it t n (fun d' n' => [] = d' ∧ n = n') := exa_ev ea_nil
theorem exa_cons {tr : TA} {R1 : PyData → Nat → Prop} {R2 : PyData → Nat → List PyData → Nat → Prop} (ha : EvX K ta l it t n R1) (hr : ∀ a n1, R1 a n1 → EvXA K tr (l.set it (.town t n1)) it t n1 (R2 a n1)) :
    EvXA K (tCons ta tr) l it t n (fun d n' => ∃ a n1 as, R1 a n1 ∧ R2 a n1 as n' ∧ d = a :: as) := fun H0 S H s e hl hs Q q =>
  ha H0 S H s e hl hs _ fun x S1 H1 a n1 r1 g1 t1 d1 => hr a n1 r1 H0 S1 H1 s (e.town hl g1 t1) (town_at hl) g1.f _ fun y S2 H2 b n2 r2 g2 t2 d2 =>
    q _ S2 H2 _ n2 ⟨a, n1, b, r1, r2, rfl⟩ (g1.trans g2) t2 (.cons (Dp_mono d1 g2.s) d2)
theorem ex_tup {tr : TA} {R1 : List PyData → Nat → Prop} (ha : EvXA K tr l it t n R1) (hz : ∀ ds n', R1 ds n' → ds.length ≤ 100000) : EvX K (tTup tr) l it t n (fun d n' => ∃ ds, R1 ds n' ∧ d = .tuple ds) := fun H0 S H s e hl hs Q q =>
  ha H0 S H s e hl hs _ fun xs S1 H1 as n1 r1 g1 t1 d1 => ⟨szl (by rw [DpAll_len d1]; exact hz as n1 r1), new_tup g1.f d1 fun v S' H' g d => q v S' H' _ n1 ⟨as, r1, rfl⟩ (g1.trans g.any) (t1.grow g) d⟩
theorem ex_lst {tr : TA} {R1 : List PyData → Nat → Prop} (ha : EvXA K tr l it t n R1) (hz : ∀ ds n', R1 ds n' → ds.length ≤ 100000) : EvX K (tLst tr) l it t n (fun d n' => ∃ ds, R1 ds n' ∧ d = .list ds) := fun H0 S H s e hl hs Q q =>
  ha H0 S H s e hl hs _ fun xs S1 H1 as n1 r1 g1 t1 d1 => ⟨szl (by rw [DpAll_len d1]; exact hz as n1 r1), new_lst g1.f d1 fun v S' H' g d => q v S' H' _ n1 ⟨as, r1, rfl⟩ (g1.trans g.any) (t1.grow g) d⟩
theorem ex_cb {tr : TA} {rr : List V → Hp → VK → Prop} {R1 : List PyData → Nat → Prop} {f : List PyData → PyData} (ha : EvXA K tr l it t n R1) (hr : ∀ as n1, R1 as n1 → RCD K rr as (f as)) : EvX K (tCB rr tr) l it t n (fun d n' => ∃ as, R1 as n' ∧ d = f as) := fun H0 S H s e hl hs Q q =>
  ha H0 S H s e hl hs _ fun xs S1 H1 as n1 r1 g1 t1 d1 => hr as n1 r1 xs S1 H1 Q g1.f d1 fun v S' H' g d => q v S' H' _ n1 ⟨as, r1, rfl⟩ (g1.trans g.any) (t1.grow g) d
theorem ex_call {tr : TA} {sp : Sp} {E : XK} {R1 : List PyData → Nat → Prop} {f : List PyData → PyData} (ha : EvXA K tr l it t n R1) (hr : ∀ as n1, R1 as n1 → SpD K sp as (f as)) : EvX K (tCall sp [] E tr) l it t n (fun d n' => ∃ as, R1 as n' ∧ d = f as) := fun H0 S H s e hl hs Q q =>
  ha H0 S H s e hl hs _ fun xs S1 H1 as n1 r1 g1 t1 d1 => hr as n1 r1 (xs ++ []) S1 H1 Q E g1.f (by rw [List.append_nil]; exact d1) fun v S' H' g d => q v S' H' _ n1 ⟨as, r1, rfl⟩ (g1.trans g.any) (t1.grow g) d
/-- a def that draws: script, town, as -/
def SpT (K : PySem.W.Frag) (sp : Sp) (sc : PyData) (as : List PyData) (n : Nat) (R : PyData → Nat → Prop) : Prop := ∀ v0 t vs S H (Q : VK) (E : XK), Same S H → Dp K S v0 sc → S t = none → TownAt H t n → DpAll K S vs as →
  (∀ v S' H' d n', R d n' → Grow (mt t) S H S' H' → TownAt H' t n' → Dp K S' v d → Q v H') → sp (v0 :: .ref t :: vs) H Q E
/-- its promise; pre of the script, the other arguments, the town's length -/
def spT (K : PySem.W.Frag) (pre : PyData → List PyData → Nat → Prop) (res : List PyData → Nat → PyData → Nat → Prop) : Sp := fun vs H Q _ => ∃ S v0 t ws sc as n, vs = v0 :: .ref t :: ws ∧ Same S H ∧ Dp K S v0 sc ∧ S t = none ∧ TownAt H t n ∧ DpAll K S ws as ∧ pre sc as n ∧
  ∀ v S' H' d n', res as n d n' → Grow (mt t) S H S' H' → TownAt H' t n' → Dp K S' v d → Q v H'
theorem spT_of {pre : PyData → List PyData → Nat → Prop} {res : List PyData → Nat → PyData → Nat → Prop} {sc : PyData} {as : List PyData} (hp : pre sc as n) : SpT K (spT K pre res) sc as n (res as n) := fun v0 t vs S H Q E hs h0 ht h1 hv q => ⟨S, v0, t, vs, sc, as, n, rfl, hs, h0, ht, h1, hv, hp, q⟩
theorem ex_callT {tr : TA} {sp : Sp} {E : XK} {i0 : Nat} {sc : PyData} {R1 : List PyData → Nat → Prop} {R2 : List PyData → Nat → PyData → Nat → Prop} (h0 : l[i0]? = some (.dat sc)) (h1 : l[it]? = some (.town t n)) (ha : EvXA K tr l it t n R1) (hr : ∀ as n1, R1 as n1 → SpT K sp sc as n1 (R2 as n1)) :
    EvX K (tCall sp [] E (tCons (tVar i0) (tCons (tVar it) tr))) l it t n (fun d n' => ∃ as n1, R1 as n1 ∧ R2 as n1 d n') := fun H0 S H s e hl hs Q q => by
  obtain ⟨v, hv, w0, rfl, hd0⟩ := e.ok i0 _ h0
  obtain ⟨v2, hv2, rfl, ht, _⟩ := e.ok it _ h1
  refine ⟨w0, hv, .ref t, hv2, ha H0 S H s e hl hs _ fun xs S1 H1 as n1 r1 g1 t1 d1 => ?_⟩
  show sp ((w0 :: .ref t :: xs) ++ []) H1 Q E
  rw [List.append_nil]
  exact hr as n1 r1 w0 t xs S1 H1 Q E g1.f (Dp_mono hd0 g1.s) (g1.n t ht (by obtain ⟨ns, q, _⟩ := e.townAt hl; exact some_ne q)) t1 d1 fun v S' H' d n' r2 g t2 dd => q v S' H' d n' ⟨as, n1, r1, r2⟩ (g1.trans g) t2 dd
theorem ext_test {R : PyData → Nat → Prop} {f : PyData → Bool} (h : EvX K te l it t n R) (hf : ∀ d n', R d n' → d = .bool (f d)) : EvXT K (tTest te) l it t n (fun b n' => ∃ d, R d n' ∧ b = f d) := fun H0 S H s e hl hs Q q =>
  h H0 S H s e hl hs _ fun v S' H' d n' r g t1 d1 => by
    have e := hf d n' r
    generalize hk : f d = k at e
    subst e
    cases d1
    exact ⟨k, rfl, q S' H' k n' ⟨_, r, hk.symm⟩ g t1⟩
theorem ext_not {R : Bool → Nat → Prop} (h : EvXT K tt l it t n R) : EvXT K (tNot tt) l it t n (fun b n' => ∃ c, R c n' ∧ b = !c) := fun H0 S H s e hl hs Q q => h H0 S H s e hl hs _ fun S' H' d n' r g t1 => q S' H' _ n' ⟨d, r, rfl⟩ g t1
theorem ext_or {R1 : Bool → Nat → Prop} {R2 : Nat → Bool → Nat → Prop} (h1 : EvXT K tt l it t n R1) (h2 : ∀ n1, R1 false n1 → EvXT K tu (l.set it (.town t n1)) it t n1 (R2 n1)) :
    EvXT K (tOr tt tu) l it t n (fun b n' => (b = true ∧ R1 true n') ∨ ∃ n1, R1 false n1 ∧ R2 n1 b n') := fun H0 S H s e hl hs Q q =>
  h1 H0 S H s e hl hs _ fun S1 H1 k n1 r g t1 => by
    cases k with
    | true => rw [if_pos rfl]; exact q S1 H1 true n1 (.inl ⟨rfl, r⟩) g t1
    | false => rw [if_neg Bool.false_ne_true]; exact h2 n1 r H0 S1 H1 s (e.town hl g t1) (town_at hl) g.f Q fun S2 H2 b n2 r2 g2 t2 => q S2 H2 b n2 (.inr ⟨n1, r, r2⟩) (g.trans g2) t2
theorem ext_and {R1 : Bool → Nat → Prop} {R2 : Nat → Bool → Nat → Prop} (h1 : EvXT K tt l it t n R1) (h2 : ∀ n1, R1 true n1 → EvXT K tu (l.set it (.town t n1)) it t n1 (R2 n1)) :
    EvXT K (tAnd tt tu) l it t n (fun b n' => (b = false ∧ R1 false n') ∨ ∃ n1, R1 true n1 ∧ R2 n1 b n') := fun H0 S H s e hl hs Q q =>
  h1 H0 S H s e hl hs _ fun S1 H1 k n1 r g t1 => by
    cases k with
    | false => rw [if_neg Bool.false_ne_true]; exact q S1 H1 false n1 (.inl ⟨rfl, r⟩) g t1
    | true => rw [if_pos rfl]; exact h2 n1 r H0 S1 H1 s (e.town hl g t1) (town_at hl) g.f Q fun S2 H2 b n2 r2 g2 t2 => q S2 H2 b n2 (.inr ⟨n1, r, r2⟩) (g.trans g2) t2
theorem ex_if {R1 : Bool → Nat → Prop} {R2 R3 : Nat → PyData → Nat → Prop} (h : EvXT K tt l it t n R1) (h1 : ∀ n1, R1 true n1 → EvX K ta (l.set it (.town t n1)) it t n1 (R2 n1)) (h2 : ∀ n1, R1 false n1 → EvX K tb (l.set it (.town t n1)) it t n1 (R3 n1)) :
    EvX K (tIf tt ta tb) l it t n (fun d n' => ∃ n1, (R1 true n1 ∧ R2 n1 d n') ∨ (R1 false n1 ∧ R3 n1 d n')) := fun H0 S H s e hl hs Q q =>
  h H0 S H s e hl hs _ fun S1 H1 k n1 r g t1 => by
    cases k with
    | true => rw [if_pos rfl]; exact h1 n1 r H0 S1 H1 s (e.town hl g t1) (town_at hl) g.f Q fun v S2 H2 b n2 r2 g2 t2 d2 => q v S2 H2 b n2 ⟨n1, .inl ⟨r, r2⟩⟩ (g.trans g2) t2 d2
    | false => rw [if_neg Bool.false_ne_true]; exact h2 n1 r H0 S1 H1 s (e.town hl g t1) (town_at hl) g.f Q fun v S2 H2 b n2 r2 g2 t2 d2 => q v S2 H2 b n2 ⟨n1, .inr ⟨r, r2⟩⟩ (g.trans g2) t2 d2
/-- range(n), n drawn -/
theorem exi_rng1 {R : PyData → Nat → Prop} {f : PyData → Int} (h : EvX K te l it t n R) (hf : ∀ d n', R d n' → d = .int (f d) ∧ -100000 ≤ f d ∧ f d ≤ 100000) : EvXI K (iRng1 (tCons te tNil)) l it t n (fun ds n' => ∃ d, R d n' ∧ ds = rng 0 (f d).toNat) := fun H0 S H s e hl hs Q q =>
  h H0 S H s e hl hs _ fun v S1 H1 d n1 r g1 t1 d1 => by
    obtain ⟨e1, e2, e3⟩ := hf d n1 r
    generalize hk : f d = k at e1 e2 e3
    subst e1
    cases d1
    exact ⟨k, rfl, by omega, by omega, q _ S1 H1 _ n1 ⟨_, r, by rw [hk]⟩ g1 t1 walkR⟩
theorem wipeL_get {j : Nat} : ∀ {vs : List Nat}, j ∉ vs → (wipeL l vs)[j]? = l[j]?
  | [], _ => rfl
  | v :: vs, h => by
    show ((wipeL l vs).set v .no)[j]? = _
    have hv : v ≠ j := fun e => h (by rw [e]; exact List.mem_cons_self)
    rw [List.getElem?_set_ne hv]
    exact wipeL_get fun z => h (List.mem_cons_of_mem _ z)
theorem ex_lc {wi : TI} {g : TG} {tt : TT} {vs : List Nat} {RI : List PyData → Nat → Prop} (I : List PyData → Nat → List PyData → Nat → Prop) (hi : EvXI K wi l it t n RI) (hg : GIn g vs)
    (hm : ∀ v s H (Q Q' : L2.St → Hp → Prop), (∀ s' H', Q s' H' → Q' s' H') → g v s H Q → g v s H Q') (hz : ∀ ds n', RI ds n' → ds.length ≤ 100000 ∧ I ds 0 [] n')
    (step : ∀ ds i d acc n1, (∃ n0, RI ds n0) → ds[i]? = some d → I ds i acc n1 → ∃ lb, Bd K g (wipeL (l.set it (.town t n1)) vs) d lb ∧ lb[it]? = some (.town t n1) ∧
      EvXT K tt lb it t n1 (fun b n2 => (b = false → I ds (i + 1) acc n2) ∧ (b = true → EvX K te (lb.set it (.town t n2)) it t n2 (fun e n3 => I ds (i + 1) (acc ++ [e]) n3)))) :
    EvX K (tLc wi g tt te vs) l it t n (fun d n' => ∃ ds acc, (∃ n0, RI ds n0) ∧ I ds ds.length acc n' ∧ d = .list acc) := fun H0 S H s e hl hs Q k => by
  refine hi H0 S H s e hl hs _ fun J S1 H1 ds n0 r0 g1 t1 w => ?_
  obtain ⟨hz1, hI0⟩ := hz ds n0 r0
  intro D hD
  have tD : ∀ n', TownAt H1 t n' → D ≠ t := fun n' h z => by
    obtain ⟨ns, q, _⟩ := h
    rw [← z, hD] at q
    cases q
  have hDt := tD n0 t1
  have out : Grow (mt t) S1 H1 S1 (upd H1 D (.lst [])) := Grow.out g1.f hD
  refine ⟨fun i m H2 => m = ds.length - i ∧ i ≤ ds.length ∧ ∃ S' xs acc n1, Grow (mt t) S1 H1 S' H2 ∧ S' D = none ∧ H2 D = some (.lst xs) ∧ DpAll K S' xs acc ∧ acc.length ≤ i ∧ TownAt H2 t n1 ∧ I ds i acc n1,
    ⟨ds.length, by simp, Nat.zero_le _, S1, [], [], n0, out, g1.f.free hD, upd_same, .nil, Nat.le_refl _, ?_, hI0⟩, ?_⟩
  · obtain ⟨ns, q1, q2⟩ := t1
    exact ⟨ns, by rw [upd_ne hDt.symm]; exact q1, q2⟩
  rintro i m H2 ⟨rfl, hle, S', xs, acc, n1, g2, sD, hD2, hacc, hal, t2, hI⟩
  by_cases hlt : i < ds.length
  · refine .inr ⟨w.go i H2 hlt (g2.s.trans g2.f), fun H3 => i + 1 ≤ ds.length ∧ ∃ S' xs acc n1, Grow (mt t) S1 H1 S' H3 ∧ S' D = none ∧ H3 D = some (.lst xs) ∧ DpAll K S' xs acc ∧ acc.length ≤ i + 1 ∧ TownAt H3 t n1 ∧ I ds (i + 1) acc n1, fun H3 ⟨q1, q2⟩ => ⟨ds.length - (i + 1), by omega, rfl, q1, q2⟩, fun x H3 y => ?_⟩
    have hd : ds[i]? = some ds[i] := List.getElem?_eq_getElem hlt
    obtain ⟨S3, g3, d3⟩ := w.yld i H2 x H3 ds[i] S' hd g2.s g2.f y
    have sD3 : S3 D = none := g3.n D sD (some_ne hD2)
    have hD3 : H3 D = some (.lst xs) := g3.all D _ hD2
    have t3 : TownAt H3 t n1 := t2.grow g3
    have g13 : Grow (mt t) S H S3 H3 := (g1.trans g2).trans g3.any
    have e3 : Env K H0 S3 H3 (wipe s vs) (wipeL (l.set it (.town t n1)) vs) := Env.wipe (e.town hl g13 t3) vs
    obtain ⟨lb, hb, hlb, ht⟩ := step ds i ds[i] acc n1 ⟨n0, r0⟩ hd hI
    have bnd := hb H0 S3 H3 (wipe s vs) x (fun s' H' => H' = H3 ∧ Env K H0 S3 H3 s' lb) e3 g3.f d3 fun s' e' => ⟨rfl, e'⟩
    refine hm _ _ _ _ _ ?_ (hg x (wipe s vs) H3 _ bnd)
    rintro s2 H4 ⟨hw, rfl, e4⟩
    have hw' : wipe s2 vs = wipe s vs := by
      rw [hw]
      apply List.ext_getElem?
      intro j
      rw [wipe_get, wipe_get, wipe_length]
      by_cases hj : j ∈ vs
      · rw [if_pos hj, if_pos hj]
      · rw [if_neg hj, if_neg hj]
    refine ⟨hw', ?_⟩
    refine ht H0 S3 H4 s2 e4 hlb g3.f _ fun S5 H5 b n2 rb g5 t5 => ?_
    have sD5 : S5 D = none := g5.n D sD3 (some_ne hD3)
    have hD5 : H5 D = some (.lst xs) := g5.k D _ hDt hD3
    cases b with
    | false =>
      rw [if_neg Bool.false_ne_true]
      exact ⟨hlt, S5, xs, acc, n2, (g2.trans g3.any).trans g5, sD5, hD5, DpAll_mono hacc (g3.s.trans g5.s), by omega, t5, rb.1 rfl⟩
    | true =>
      rw [if_pos rfl]
      refine rb.2 rfl H0 S5 H5 s2 (e4.town hlb g5 t5) (town_at hlb) g5.f _ fun y2 S6 H6 d6' n3 r6 g6 t6 d6 => ?_
      have sD6 : S6 D = none := g6.n D sD5 (some_ne hD5)
      have hD6 : H6 D = some (.lst xs) := g6.k D _ hDt hD5
      have gg : Grow (mt t) S1 H1 S6 H6 := ((g2.trans g3.any).trans g5).trans g6
      have hl := DpAll_len hacc
      refine ⟨xs, hD6, szt (by omega), hlt, S6, xs ++ [y2], acc ++ [d6'], n3, gg.putNew hD sD6 (some_ne hD6), sD6, upd_same, DpAll_app (DpAll_mono hacc ((g3.s.trans g5.s).trans g6.s)) (.cons d6 .nil), by rw [List.length_append]; simp; omega, ?_, r6⟩
      obtain ⟨ns, q1, q2⟩ := t6
      exact ⟨ns, by rw [upd_ne hDt.symm]; exact q1, q2⟩
  · have ei : i = ds.length := by omega
    subst ei
    have hDH : H D = none := by
      cases hq : H D with
      | none => rfl
      | some u => exact absurd hD (g1.d D (some_ne hq))
    have gt := (g1.trans g2).take hDH hD2 sD
    exact .inl ⟨w.stop H2 (g2.s.trans g2.f), k (.ref D) _ H2 (.list acc) n1 ⟨ds, acc, ⟨n0, r0⟩, hI, rfl⟩ gt t2 (.lst (.inl (.inl upd_same)) (DpAll_mono hacc (same_up sD)))⟩
end
section
variable {C : Cn} {l l' : List Sl} {ta tb te : TE} {tt : TT} {a b c d : PyData} {ds : List PyData} {i it n : Nat} {o t : Addr} {s : L2.St} {H : Hp} {D : Ends} {tu tv : TS}
theorem tw_town {m : Addr → Prop} {n' : Nat} (h : ∀ t n, Sl.town t n ∈ l → m t) (hi : l[it]? = some (.town t n)) : ∀ t' k, Sl.town t' k ∈ l.set it (.town t n') → m t' := fun t' k hm => by
  rcases List.mem_or_eq_of_mem_set hm with q | q
  · exact h t' k q
  · cases q
    exact h t n (List.mem_of_getElem? hi)
theorem At.stepX {R : PyData → Nat → Prop} (h : At C l s H) (hi : l[it]? = some (.town t n)) (he : EvX C.K te l it t n R) {Q : VK} (q : ∀ v S' H' d n', R d n' → Grow C.m C.S0 C.H0 S' H' → Env C.K C.H0 S' H' s (l.set it (.town t n')) → Same C.Sb S' → Dp C.K S' v d → Q v H') : te s H Q := by
  obtain ⟨S, g, e, b⟩ := h.ex
  have hm : C.m t := h.tw t n (List.mem_of_getElem? hi)
  exact he C.H0 S H s e hi g.f Q fun v S' H' d n' r g1 t1 d1 => q v S' H' d n' r (g.trans (g1.mono fun x hx => by cases hx; exact hm)) (e.town hi g1 t1) (b.trans g1.s) d1
theorem dx_asg {R : PyData → Nat → Prop} (h : At C l s H) (hi : l[it]? = some (.town t n)) (he : EvX C.K te l it t n R) (k : ∀ d n' s' H', R d n' → At C ((l.set it (.town t n')).set i (.dat d)) s' H' → D.nx s' H') : tAsg te (gName i) D s H :=
  h.stepX hi he fun v S' H' d n' r g e b d1 => k d n' _ _ r ⟨⟨S', g, e.dat d1, b⟩, tw_set (tw_town h.tw hi) fun _ _ z => nomatch z⟩
theorem dx_ret {R : PyData → Nat → Prop} (h : At C l s H) (hi : l[it]? = some (.town t n)) (he : EvX C.K te l it t n R) (k : ∀ v S' H' d n', R d n' → Grow C.m C.S0 C.H0 S' H' → TownAt H' t n' → Dp C.K S' v d → D.rt v H') : tRet te D s H :=
  h.stepX hi he fun v S' H' d n' r g e b d1 => k v S' H' d n' r g (e.townAt (town_at hi)) d1
theorem dx_drop {R : PyData → Nat → Prop} (h : At C l s H) (hi : l[it]? = some (.town t n)) (he : EvX C.K te l it t n R) (k : ∀ d n' H', R d n' → At C (l.set it (.town t n')) s H' → D.nx s H') : tDrop te D s H :=
  h.stepX hi he fun v S' H' d n' r g e b d1 => k d n' H' r ⟨⟨S', g, e, b⟩, tw_town h.tw hi⟩
theorem dx_if {R : Bool → Nat → Prop} (h : At C l s H) (hi : l[it]? = some (.town t n)) (he : EvXT C.K tt l it t n R) (h1 : ∀ n' H', R true n' → At C (l.set it (.town t n')) s H' → tu D s H') (h2 : ∀ n' H', R false n' → At C (l.set it (.town t n')) s H' → tv D s H') : tIfS tt tu tv D s H := by
  obtain ⟨S, g, e, b⟩ := h.ex
  have hm : C.m t := h.tw t n (List.mem_of_getElem? hi)
  refine he C.H0 S H s e hi g.f _ fun S' H' k n' r g1 t1 => ?_
  have h' : At C (l.set it (.town t n')) s H' := ⟨⟨S', g.trans (g1.mono fun x hx => by cases hx; exact hm), e.town hi g1 t1, b.trans g1.s⟩, tw_town h.tw hi⟩
  cases k with
  | true =>
    show tu D s H'
    exact h1 n' H' r h'
  | false =>
    show tv D s H'
    exact h2 n' H' r h'
theorem dx_app {R : PyData → Nat → Prop} {j : Nat} (h : At C l s H) (hi : l[it]? = some (.town t n)) (hj : l[j]? = some (.own o ds)) (he : EvX C.K te l it t n R) (hz : ds.length < 100000) (hne : j ≠ it)
    (k : ∀ d n' H', R d n' → At C ((l.set it (.town t n')).set j (.own o (ds ++ [d]))) s H' → D.nx s H') : tDrop (tBM C.K "list" rAppend (tVar j) (tCons te tNil)) D s H := by
  obtain ⟨S, g, e, b⟩ := h.ex
  obtain ⟨v, hv, rfl, h0, hS, xs, hx, hd⟩ := e.ok j _ hj
  have hm : C.m t := h.tw t n (List.mem_of_getElem? hi)
  have hot : o ≠ t := fun z => by
    subst z
    exact hne (nodup_eq (ys := []) e.nd hj hi rfl rfl)
  refine ⟨_, hv, .inl ⟨rfl, xs, .inl (.inl hx)⟩, he C.H0 S H s e hi g.f _ fun y S1 H1 d n' r g1 t1 d1 => ?_⟩
  refine ⟨o, xs, y, rfl, rfl, g1.k o _ hot hx, szt (by rw [DpAll_len hd]; exact hz), k d n' _ r ?_⟩
  exact At.put (H' := H1) (tw_town h.tw hi) (g.trans (g1.mono fun x hx => by cases hx; exact hm)) (e.town hi g1 t1) (b.trans g1.s) (by rw [List.getElem?_set_ne (Ne.symm hne)]; exact hj) (DpAll_app (DpAll_mono hd g1.s) (.cons d1 .nil))
end
end Dz
namespace Dz
open PySem PySem.SeqAt PyProof.Rows L2 RZ
section
variable {K : PySem.W.Frag} {l : List Sl} {te : TE} {d : PyData} {it n : Nat} {t : Addr}
/-- town[0] -/
theorem ex_town0 (h : l[it]? = some (.town t n)) (hn : 0 < n) : EvX K (tOp (rIx K) (tVar it) (tC (.int 0))) l it t n (fun d n' => (∃ x : Int, d = .int x) ∧ n = n') := fun H0 S H s e hl hs Q q => by
  obtain ⟨v, hv, rfl, hS, ns, ht, hle, hne⟩ := e.ok it _ h
  cases ns with
  | nil => exact absurd rfl (hne hn)
  | cons x r => exact ⟨_, hv, .inl ⟨t, _, 0, .int x, rfl, rfl, .inl (.inl ht), atI_nat (j := 0) rfl, q _ S H (.int x) n ⟨⟨x, rfl⟩, rfl⟩ (Grow.refl hs) (e.townAt hl) (.int x)⟩⟩
theorem ev_lenTown (h : l[it]? = some (.town t n)) : EvX K (tCB (rLenK K) (tCons (tVar it) tNil)) l it t n (fun d n' => (∃ x : Nat, d = .int x) ∧ n = n') := fun H0 S H s e hl hs Q q => by
  obtain ⟨v, hv, rfl, hS, ns, ht, hle, hne⟩ := e.ok it _ h
  exact ⟨_, hv, t, _, rfl, .inl (.inl (.inl ht)), q _ S H _ n ⟨⟨_, rfl⟩, rfl⟩ (Grow.refl hs) (e.townAt hl) (.int _)⟩
end
section
variable {C : Cn} {l : List Sl} {te tb : TE} {d : PyData} {it n : Nat} {t : Addr} {s : L2.St} {H : Hp} {D : Ends} {tu tv : TS}
theorem At.putT {S : Hp} {ys : List Int} {n' : Nat} (tw : ∀ t n, Sl.town t n ∈ l → C.m t) (g : Grow C.m C.S0 C.H0 S H) (e : Env C.K C.H0 S H s l) (b : Same C.Sb S) (hi : l[it]? = some (.town t n)) (hy : ys.length ≤ n') (h0 : 0 < n' → ys ≠ []) :
    At C (l.set it (.town t n')) s (upd H t (.lst (ys.map V.int))) := by
  obtain ⟨v, hv, rfl, hS, ns, ht, hle, hne⟩ := e.ok it _ hi
  have hm : C.m t := tw t n (List.mem_of_getElem? hi)
  have gm : Grow (mt t) S H S (upd H t (.lst (ys.map V.int))) := Grow.put g.f hS rfl (some_ne ht)
  exact ⟨⟨S, g.trans (gm.mono fun x hx => by cases hx; exact hm), e.town hi gm ⟨ys, upd_same, hy, h0⟩, b⟩, tw_town tw hi⟩
/-- town.append(x) -/
theorem dt_app {x : Int} (h : At C l s H) (hi : l[it]? = some (.town t n)) (he : Ev C.K te l (.int x)) (hz : n < 100000) (k : ∀ H', At C (l.set it (.town t (n + 1))) s H' → D.nx s H') : tDrop (tBM C.K "list" rAppend (tVar it) (tCons te tNil)) D s H := by
  obtain ⟨S, g, e, b⟩ := h.ex
  obtain ⟨v, hv, rfl, hS, ns, ht, hle, hne⟩ := e.ok it _ hi
  refine ⟨_, hv, .inl ⟨rfl, _, .inl (.inl ht)⟩, he C.H0 S H s e g.f _ fun y S1 H1 g1 d1 => ?_⟩
  cases d1
  refine ⟨t, ns.map V.int, .int x, rfl, rfl, g1.all t _ ht, szt (by rw [List.length_map]; omega), k _ ?_⟩
  have e2 : ns.map V.int ++ [V.int x] = (ns ++ [x]).map V.int := by simp
  rw [e2]
  exact At.putT h.tw (g.trans g1.any) (e.grow g1) (b.trans g1.s) hi (by simp; omega) (fun _ z => by simp at z)
/-- if not town: town.append(x) -/
theorem dt_if {x : Int} (h : At C l s H) (hi : l[it]? = some (.town t n)) (he : Ev C.K te l (.int x)) (hz : n < 100000) (k : ∀ H', At C (l.set it (.town t (n + 1))) s H' → D.nx s H') :
    tIfS (tNot fun σ H Q => tVar it σ H fun x H' => ∃ k, TruV C.K x H' k ∧ Q k H') (tDrop (tBM C.K "list" rAppend (tVar it) (tCons te tNil))) tNext D s H := by
  obtain ⟨S, g, e, b⟩ := h.ex
  obtain ⟨v, hv, rfl, hS, ns, ht, hle, hne⟩ := e.ok it _ hi
  refine ⟨_, hv, _, .inl ⟨_, .inl (.inl ht), rfl⟩, ?_⟩
  cases ns with
  | nil =>
    rw [if_pos (by rfl)]
    exact dt_app h hi he hz k
  | cons z r =>
    rw [if_neg (by simp)]
    show D.nx s H
    refine k H ⟨⟨S, g, ?_, b⟩, tw_town h.tw hi⟩
    exact e.town hi (Grow.refl g.f) ⟨z :: r, ht, by omega, fun _ => by simp⟩
/-- town[0] = e -/
theorem dt_set0 {R : PyData → Nat → Prop} (h : At C l s H) (hi : l[it]? = some (.town t n)) (hn : 0 < n) (he : EvX C.K te l it t n R) (hR : ∀ d n', R d n' → (∃ x : Int, d = .int x) ∧ n = n') (k : ∀ H', At C l s H' → D.nx s H') : tAsg te (gSub (tVar it) (tC (.int 0)) rSetL) D s H := by
  obtain ⟨S, g, e, b⟩ := h.ex
  have hm : C.m t := h.tw t n (List.mem_of_getElem? hi)
  refine he C.H0 S H s e hi g.f _ fun y S1 H1 d n' r g1 t1 d1 => ?_
  obtain ⟨⟨x, rfl⟩, rfl⟩ := hR d n' r
  cases d1
  have e1 := e.town hi g1 t1
  obtain ⟨v, hv, rfl, hS, ns, ht, hle, hne⟩ := e1.ok it _ (town_at hi)
  cases ns with
  | nil => exact absurd rfl (hne hn)
  | cons z r =>
    refine ⟨_, hv, t, _, 0, 0, rfl, rfl, ht, by unfold ixN; rw [if_pos (by omega), if_pos (by simp)]; rfl, k _ ?_⟩
    have e2 : (List.map V.int (z :: r)).set 0 (V.int x) = (x :: r).map V.int := rfl
    rw [e2]
    have := At.putT (n' := n) (ys := x :: r) (tw_town h.tw hi) (g.trans (g1.mono fun x hx => by cases hx; exact hm)) e1 (b.trans g1.s) (town_at hi) (by simpa using hle) (fun _ => by simp)
    have es : (l.set it (.town t n)).set it (.town t n) = l := by
      rw [List.set_set]
      apply List.ext_getElem?
      intro j
      by_cases hj : it = j
      · subst hj
        rw [List.getElem?_set_self (List.getElem?_eq_some_iff.mp hi).1, hi]
      · rw [List.getElem?_set_ne hj]
    rw [es] at this
    exact this
end
end Dz
namespace Dz
open PySem L2
theorem d_seq {t u : TS} {D : Ends} {s : L2.St} {H : Hp} (h : t { D with nx := u D } s H) : tSeq t u D s H := h
theorem d_nx {N : L2.St → Hp → Prop} {r : VK} {b c : L2.St → Hp → Prop} {s : L2.St} {H : Hp} (h : N s H) : Ends.nx ⟨N, r, b, c⟩ s H := h
end Dz
namespace Dz
open PySem L2
section
variable {K : PySem.W.Frag} {l : List Sl} {tr : TA} {E : XK} {it n i0 : Nat} {t : Addr} {sc : PyData} {ds : List PyData}
theorem ex_dr {pre : PyData → List PyData → Nat → Prop} {res : List PyData → Nat → PyData → Nat → Prop} {R1 : List PyData → Nat → Prop} (h0 : l[i0]? = some (.dat sc)) (h1 : l[it]? = some (.town t n)) (ha : EvXA K tr l it t n R1) (hp : ∀ as n1, R1 as n1 → pre sc as n1) :
    EvX K (tCall (spT K pre res) [] E (tCons (tVar i0) (tCons (tVar it) tr))) l it t n (fun d n' => ∃ as n1, R1 as n1 ∧ res as n1 d n') := ex_callT h0 h1 ha fun as n1 r => spT_of (hp as n1 r)
theorem ev_f {pre : List PyData → Prop} {res : List PyData → PyData} (ha : EvA K tr l ds) (hp : pre ds) : Ev K (tCall (spF K pre res) [] E tr) l (res ds) := ev_call ha (sp_of hp rfl)
theorem ex_f {pre : List PyData → Prop} {res : List PyData → PyData} {R1 : List PyData → Nat → Prop} (ha : EvXA K tr l it t n R1) (hp : ∀ as n1, R1 as n1 → pre as) : EvX K (tCall (spF K pre res) [] E tr) l it t n (fun d n' => ∃ as, R1 as n' ∧ d = res as) := ex_call ha fun as n1 r => sp_of (hp as n1 r) rfl
end
end Dz

namespace Dz
open PySem PySem.SeqAt PyProof.Rows L2 RZ
section
variable {C : Cn} {l : List Sl} {ta tb te : TE} {a b d : PyData} {ds es : List PyData} {i j : Nat} {s : L2.St} {H : Hp} {D : Ends}
/-- a new object's place in the state -/
theorem At.own {S S' H' : Hp} {p : Addr} {xs : List V} (h : At C l s H) (g : Grow C.m C.S0 C.H0 S H) (e : Env C.K C.H0 S H s l) (b : Same C.Sb S) (g1 : Grow m0 S H S' H') (hp : H p = none) (sp : S' p = none) (hx : H' p = some (.lst xs)) (hd : DpAll C.K S' xs ds) :
    At C (l.set i (.own p ds)) (s.set i (some (.ref p))) H' := by
  have e' := e.grow g1
  have h0 : C.H0 p = none := by
    cases hq : C.H0 p with
    | none => rfl
    | some u => exact absurd hp (g.d p (some_ne hq))
  have hm : p ∉ muts l := fun z => (e.there z).1 hp
  exact ⟨⟨S', g.trans g1.any, e'.fresh rfl hm ⟨rfl, h0, sp, xs, hx, hd⟩, b.trans g1.s⟩, tw_set h.tw fun _ _ z => nomatch z⟩
/-- x, y = e1, e2: data and data; data and a new list; two new lists -/
theorem d_par (h : At C l s H) (ha : Ev C.K ta l a) (hb : Ev C.K tb l b) (k : ∀ s' H', At C ((l.set i (.dat a)).set j (.dat b)) s' H' → D.nx s' H') : tPar i j (tCons ta (tCons tb tNil)) D s H := by
  obtain ⟨S, g, e, b0⟩ := h.ex
  refine ha C.H0 S H s e g.f _ fun x S1 H1 g1 d1 => hb C.H0 S1 H1 s (e.grow g1) g1.f _ fun y S2 H2 g2 d2 => ⟨x, y, rfl, k _ _ ?_⟩
  exact ⟨⟨S2, g.trans (g1.trans g2).any, ((e.grow (g1.trans g2)).dat (Dp_mono d1 g2.s)).dat d2, b0.trans (g1.s.trans g2.s)⟩, tw_set (tw_set h.tw fun _ _ z => nomatch z) fun _ _ z => nomatch z⟩
theorem d_parDL (h : At C l s H) (ha : Ev C.K ta l a) (hb : EvL C.K tb l ds) (k : ∀ p s' H', At C ((l.set i (.dat a)).set j (.own p ds)) s' H' → D.nx s' H') : tPar i j (tCons ta (tCons tb tNil)) D s H := by
  obtain ⟨S, g, e, b0⟩ := h.ex
  refine ha C.H0 S H s e g.f _ fun x S1 H1 g1 d1 => hb C.H0 S1 H1 s (e.grow g1) g1.f _ fun p S2 H2 xs g2 hp sp hx hd => ⟨x, .ref p, rfl, k p _ _ ?_⟩
  have h1 : At C (l.set i (.dat a)) (s.set i (some x)) H1 := ⟨⟨S1, g.trans g1.any, (e.grow g1).dat d1, b0.trans g1.s⟩, tw_set h.tw fun _ _ z => nomatch z⟩
  exact h1.own (g.trans g1.any) ((e.grow g1).dat d1) (b0.trans g1.s) g2 hp sp hx hd
theorem d_parLL (h : At C l s H) (ha : EvL C.K ta l ds) (hb : EvL C.K tb l es) (k : ∀ p q s' H', At C ((l.set i (.own p ds)).set j (.own q es)) s' H' → D.nx s' H') : tPar i j (tCons ta (tCons tb tNil)) D s H := by
  obtain ⟨S, g, e, b0⟩ := h.ex
  refine ha C.H0 S H s e g.f _ fun p S1 H1 xs g1 hp sp hx hd => hb C.H0 S1 H1 s (e.grow g1) g1.f _ fun q S2 H2 ys g2 hq sq hy hd2 => ⟨.ref p, .ref q, rfl, k p q _ _ ?_⟩
  have h1 : At C (l.set i (.own p ds)) (s.set i (some (.ref p))) H1 := h.own g e b0 g1 hp sp hx hd
  have h0 : C.H0 p = none := by
    cases hq : C.H0 p with
    | none => rfl
    | some u => exact absurd hp (g.d p (some_ne hq))
  have hm : p ∉ muts l := fun z => (e.there z).1 hp
  exact h1.own (g.trans g1.any) ((e.grow g1).fresh rfl hm ⟨rfl, h0, sp, xs, hx, hd⟩) (b0.trans g1.s) g2 hq sq hy hd2
theorem own_put {o : Addr} {S : Hp} {ys : List V} (g : Grow C.m C.S0 C.H0 S H) (e : Env C.K C.H0 S H s l) (hi : l[i]? = some (.own o ds)) (hd : DpAll C.K S ys es) :
    Grow C.m C.S0 C.H0 S (upd H o (.lst ys)) ∧ Env C.K C.H0 S (upd H o (.lst ys)) s (l.set i (.own o es)) := by
  obtain ⟨v, hv, rfl, h0, hS, xs, hx, _⟩ := e.ok i _ hi
  have hk : ∀ c w, c ≠ o → H c = some w → upd H o (.lst ys) c = some w := fun c w hc hw => by rw [upd_ne hc]; exact hw
  refine ⟨g.putNew h0 hS (some_ne hx), e.put hi rfl rfl (Same.refl S) (fun _ z _ => z) hk fun v ok => ?_⟩
  obtain ⟨e1, e2, e3, _⟩ := ok
  exact ⟨e1, e2, e3, ys, upd_same, hd⟩
/-- xs.append(ys.pop(n)), n drawn -/
theorem dx_appPop {it i2 n : Nat} {t o1 o2 : Addr} {R : PyData → Nat → Prop} (h : At C l s H) (hi : l[it]? = some (.town t n)) (h1 : l[i]? = some (.own o1 ds)) (h2 : l[i2]? = some (.own o2 es)) (he : EvX C.K te l it t n R) (hz : es.length < 100000) (hz1 : ds.length ≤ 100000)
    (hne : i ≠ it) (hne2 : i2 ≠ it) (hne3 : i ≠ i2) (hR : ∀ d n', R d n' → ∃ q : Nat, d = .int q ∧ q < ds.length)
    (k : ∀ (q : Nat) (hq : q < ds.length) n' H', R (.int q) n' → At C (((l.set it (.town t n')).set i (.own o1 (ds.eraseIdx q))).set i2 (.own o2 (es ++ [ds[q]]))) s H' → D.nx s H') :
    tDrop (tBM C.K "list" rAppend (tVar i2) (tCons (tBM C.K "list" rPopAt (tVar i) (tCons te tNil)) tNil)) D s H := by
  obtain ⟨S, g, e, b⟩ := h.ex
  obtain ⟨v1, hv1, rfl, h01, hS1, xs1, hx1, hd1⟩ := e.ok i _ h1
  obtain ⟨v2, hv2, rfl, h02, hS2, xs2, hx2, hd2⟩ := e.ok i2 _ h2
  have hm : C.m t := h.tw t n (List.mem_of_getElem? hi)
  have ot1 : o1 ≠ t := fun z => by
    subst z
    exact hne (nodup_eq (ys := []) e.nd h1 hi rfl rfl)
  have ot2 : o2 ≠ t := fun z => by
    subst z
    exact hne2 (nodup_eq (ys := []) e.nd h2 hi rfl rfl)
  have o12 : o2 ≠ o1 := fun z => by
    subst z
    exact hne3 (nodup_eq (ys := []) e.nd h1 h2 rfl rfl)
  refine ⟨_, hv2, .inl ⟨rfl, xs2, .inl (.inl hx2)⟩, _, hv1, .inl ⟨rfl, xs1, .inl (.inl hx1)⟩, he C.H0 S H s e hi g.f _ fun y S1 H1 d n' r g1 t1 d1 => ?_⟩
  obtain ⟨q, rfl, hq⟩ := hR d n' r
  cases d1
  have hl1 := DpAll_len hd1
  have hl2 := DpAll_len hd2
  have hx1' : H1 o1 = some (.lst xs1) := g1.k o1 _ ot1 hx1
  have hx2' : H1 o2 = some (.lst xs2) := g1.k o2 _ ot2 hx2
  obtain ⟨v, hv, hdv⟩ := DpAll_get (DpAll_mono hd1 g1.s) (List.getElem?_eq_getElem hq)
  have hsi : seqIndex? (q : Int) xs1.length = some q := by
    have := seqIndex_of (k := (q : Int)) (n := xs1.length) (by omega) (by omega)
    simpa using this
  refine ⟨o1, xs1, (q : Int), q, v, rfl, rfl, hx1', by omega, by omega, hsi, hv, ?_⟩
  refine ⟨o2, xs2, v, rfl, rfl, by rw [upd_ne o12]; exact hx2', szt (by omega), k q hq n' _ r ?_⟩
  have e1 := e.town hi g1 t1
  have g1' := g.trans (g1.mono fun x hx => by cases hx; exact hm)
  obtain ⟨g2, e2⟩ := own_put (ys := xs1.eraseIdx q) g1' e1 (show (l.set it (.town t n'))[i]? = some (.own o1 ds) by rw [List.getElem?_set_ne (Ne.symm hne)]; exact h1) (DpAll_erase q (DpAll_mono hd1 g1.s))
  exact At.put (H' := H1) (tw_set (tw_town h.tw hi) fun _ _ z => nomatch z) g2 e2 (b.trans g1.s) (by rw [List.getElem?_set_ne hne3, List.getElem?_set_ne (Ne.symm hne2)]; exact h2) (DpAll_app (DpAll_mono hd2 g1.s) (.cons hdv .nil))
end
end Dz
namespace Dz
open PySem PySem.SeqAt PyProof.Rows L2 RZ
section
variable {K : PySem.W.Frag} {l : List Sl} {ta tb te : TE} {a b d : PyData} {ds es : List PyData} {i j it n : Nat} {t : Addr}
theorem cutD_take (ds : List PyData) (k : Nat) : cutD ds none (some (k : Int)) = ds.take k := by
  unfold cutD
  rw [HT.sIx_none, HT.sIx_nat]
  simp only [List.drop_zero, Nat.sub_zero]
  by_cases h : k ≤ ds.length
  · rw [Nat.min_eq_left h]
  · rw [Nat.min_eq_right (by omega), List.take_length, List.take_of_length_le (by omega)]
theorem cutD_drop (ds : List PyData) (k : Nat) : cutD ds (some (k : Int)) none = ds.drop k := by
  unfold cutD
  rw [HT.sIx_none, HT.sIx_nat]
  by_cases h : k ≤ ds.length
  · rw [Nat.min_eq_left h, List.take_of_length_le (by rw [List.length_drop]; omega)]
  · rw [Nat.min_eq_right (by omega), Nat.sub_self, List.take_zero, List.drop_of_length_le (by omega)]
theorem cutD_front (ds : List PyData) (k : Nat) (h0 : 0 < k) : cutD ds none (some (-(k : Int))) = ds.take (ds.length - k) := by
  unfold cutD
  rw [HT.sIx_none]
  show List.take ((if (-(k : Int)) < 0 then (-(k : Int) + (ds.length : Int)).toNat else min (-(k : Int)).toNat ds.length) - 0) (List.drop 0 ds) = _
  rw [if_pos (by omega)]
  simp only [List.drop_zero, Nat.sub_zero]
  congr 1
  omega
theorem rgV_dp {S : Hp} (a b : Int) : DpAll K S (rgV a b) (rng a (b - a).toNat) := by
  unfold rgV rng
  generalize List.range (b - a).toNat = xs
  induction xs with
  | nil => exact .nil
  | cons x r ih => exact .cons (.int _) ih
/-- list(range(n)) -/
theorem ev_listRg {m : Int} (h : Ev K te l (.int m)) (h1 : m ≤ 100000) (h2 : -100000 ≤ m) : Ev K (tLstRg (tRg1 te)) l (.list (rng 0 m.toNat)) := fun H0 S H s e hs Q q =>
  h H0 S H s e hs _ fun v S1 H1 g1 d1 => by
    cases d1
    refine ⟨m, rfl, ⟨by omega, by omega, by omega, by omega, by omega⟩, new_lst g1.f ?_ fun v S' H' g d => q v S' H' (g1.trans g) d⟩
    have := rgV_dp (K := K) (S := S1) 0 m
    rwa [Int.sub_zero] at this
theorem el_listRg {m : Int} (h : Ev K te l (.int m)) (h1 : m ≤ 100000) (h2 : -100000 ≤ m) : EvL K (tLstRg (tRg1 te)) l (rng 0 m.toNat) := fun H0 S H s e hs Q q =>
  h H0 S H s e hs _ fun v S1 H1 g1 d1 => by
    cases d1
    refine ⟨m, rfl, ⟨by omega, by omega, by omega, by omega, by omega⟩, fun p hp => q p S1 _ _ (g1.trans (Grow.out g1.f hp)) (g1.all.free hp) (g1.f.free hp) upd_same ?_⟩
    have := rgV_dp (K := K) (S := S1) 0 m
    rwa [Int.sub_zero] at this
/-- [..] * n, nobody's yet -/
theorem el_rep {tr : TA} {k : Int} (ha : EvA K tr l ds) (hb : Ev K tb l (.int k)) (hk : k ≤ 1000 ∧ -1000 ≤ k) (hd : ds.length ≤ 100) : EvL K (tOp rTimes (tLst tr) tb) l (List.replicate k.toNat ds).flatten := fun H0 S H s e hs Q q =>
  ha H0 S H s e hs _ fun xs S1 H1 g1 d1 => ⟨by rw [DpAll_len d1]; exact szl (by omega), fun p hp => by
    have g2 : Grow m0 S1 H1 (upd S1 p (.lst xs)) (upd H1 p (.lst xs)) := Grow.new g1.f hp
    refine hb H0 _ _ s (e.grow (g1.trans g2)) g2.f _ fun y S3 H3 g3 d3 => ?_
    cases d3
    have hl := DpAll_len d1
    refine .inr ⟨p, k, xs, rfl, rfl, g3.all p _ upd_same, by omega, by omega, ?_, ?_⟩
    · refine szl (Nat.le_trans (Nat.mul_le_mul (show xs.length ≤ 100 by omega) (show k.toNat ≤ 1000 by omega)) (by decide))
    · have hrep : ∀ n : Nat, DpAll K S3 (List.replicate n xs).flatten (List.replicate n ds).flatten := fun n => by
        induction n with
        | zero => exact .nil
        | succ n ih =>
          rw [List.replicate_succ, List.replicate_succ, List.flatten_cons, List.flatten_cons]
          exact DpAll_app (DpAll_mono d1 (g2.s.trans g3.s)) ih
      exact fun p' hp' => q p' S3 _ _ (((g1.trans g2).trans g3).trans (Grow.out g3.f hp')) (((g1.trans g2).trans g3).all.free hp') (g3.f.free hp') upd_same (hrep _)⟩
/-- xs[:n], both drawn -/
theorem ex_slHi {R1 : PyData → Nat → Prop} {R2 : PyData → Nat → PyData → Nat → Prop} {f : PyData → List PyData} {g : PyData → Int} (ha : EvX K te l it t n R1) (hf : ∀ a n1, R1 a n1 → a = .list (f a)) (hb : ∀ a n1, R1 a n1 → EvX K tb (l.set it (.town t n1)) it t n1 (R2 a n1)) (hg : ∀ a n1 b n2, R1 a n1 → R2 a n1 b n2 → b = .int (g b)) :
    EvX K (tSl (rSlAny K) te tNoPart (tPart tb)) l it t n (fun d n' => ∃ a n1 b, R1 a n1 ∧ R2 a n1 b n' ∧ d = .list (cutD (f a) none (some (g b)))) := fun H0 S H s e hl hs Q q =>
  ha H0 S H s e hl hs _ fun x S1 H1 a n1 r1 g1 t1 d1 => hb a n1 r1 H0 S1 H1 s (e.town hl g1 t1) (town_at hl) g1.f _ fun y S2 H2 b n2 r2 g2 t2 d2 => by
    have ea := hf a n1 r1
    have eb := hg a n1 b n2 r1 r2
    generalize hk : g b = k at eb
    generalize hfa : f a = fa at ea
    subst eb
    subst ea
    cases d2
    refine ⟨k, rfl, ?_⟩
    cases Dp_mono d1 g2.s with
    | lst h3 h4 => exact .inl ⟨_, _, rfl, g2.f.seq h3, new_lst g2.f (cut_dp h4 none (some k)) fun v S' H' g3 d3 => q v S' H' _ n2 ⟨_, n1, _, r1, r2, by rw [hfa, hk]⟩ ((g1.trans g2).trans g3.any) (t2.grow g3) d3⟩
theorem TownAt.le {H : Hp} {n' : Nat} (h : TownAt H t n) (h1 : n ≤ n') (h0 : 0 < n) : TownAt H t n' := by
  obtain ⟨ns, a, b, c⟩ := h
  exact ⟨ns, a, by omega, fun _ => c h0⟩
end
section
variable {C : Cn} {l : List Sl} {s : L2.St} {H : Hp} {it n n' : Nat} {t : Addr}
/-- more room in the town -/
theorem At.room (h : At C l s H) (hi : l[it]? = some (.town t n)) (h1 : n ≤ n') (h0 : 0 < n) : At C (l.set it (.town t n')) s H := by
  obtain ⟨S, g, e, b⟩ := h.ex
  exact ⟨⟨S, g, e.town hi (Grow.refl g.f) ((e.townAt hi).le h1 h0), b⟩, tw_town h.tw hi⟩
end
end Dz

/-! the rules with the written part named -/
namespace Dz
open PySem PySem.SeqAt PyProof.Rows L2 RZ SrtO
section
variable {X : Cx} (K : PySem.W.Frag)
theorem k_ix (h : X.K = K := by rfl) : IxR X (rIx K) := h ▸ ix_seq
theorem k_sl (h : X.K = K := by rfl) : SlR X (rSlAny K) := h ▸ sl_any
theorem k_plus (h : X.K = K := by rfl) : OpR X (binaryOp .Add) (rPlus K) := h ▸ op_plus
theorem k_eq (hu : X.A.units + 64 < cLine) (h : X.K = K := by rfl) : OpR X (compareOp .Eq) (rEqA K) := h ▸ op_eqA hu
theorem k_ne (hu : X.A.units + 64 < cLine) (h : X.K = K := by rfl) : OpR X (compareOp .NotEq) (rNeA K) := h ▸ op_neA hu
theorem k_in (h : X.K = K := by rfl) : OpR X (compareOp .In) (rIn K false) := h ▸ op_in_seq
theorem k_notin (h : X.K = K := by rfl) : OpR X (compareOp .NotIn) (rIn K true) := h ▸ op_notIn_seq
theorem k_inD (hu : X.A.units + 65 < cLine) (h : X.K = K := by rfl) : OpR X (compareOp .In) (rInD K) := h ▸ op_inD hu
theorem k_notinD (hu : X.A.units + 65 < cLine) (h : X.K = K := by rfl) : OpR X (compareOp .NotIn) (rNotInD K) := h ▸ op_notInD hu
theorem k_len (h : X.K = K := by rfl) : CallR X (.builtin "len") (rLenK K) := h ▸ call_len_seq
theorem k_list (h : X.K = K := by rfl) : CallR X (.type "list") (rListK K) := h ▸ call_list_of
theorem k_tuple (h : X.K = K := by rfl) : CallR X (.type "tuple") (rTupleK K) := h ▸ call_tuple_of
theorem k_max (hc : X.calm = true) (h : X.K = K := by rfl) : CallR X (.builtin "max") (rMax K) := h ▸ cr_max hc
theorem k_min (hc : X.calm = true) (h : X.K = K := by rfl) : CallR X (.builtin "min") (rMin K) := h ▸ cr_min hc
theorem k_sum (hc : X.calm = true) (h : X.K = K := by rfl) : CallR X (.builtin "sum") (rSum K) := h ▸ cr_sum hc
theorem k_all (hc : X.calm = true) (h : X.K = K := by rfl) : CallR X (.builtin "all") (rAll K) := h ▸ cr_all hc
theorem k_any (hc : X.calm = true) (h : X.K = K := by rfl) : CallR X (.builtin "any") (rAny K) := h ▸ cr_any hc
theorem k_sorted (h : X.K = K := by rfl) : CallR X (.builtin "sorted") (rSortedI K) := h ▸ cr_sortedI
theorem k_isi (h : X.K = K := by rfl) : CallR X (.builtin "isinstance") (rIsi K) := h ▸ call_isi
theorem k_seq {tg e : Expr} {tl : TE} (p : PE X e tl) (h : X.K = K := by rfl) : PI X tg e (iSeq K tl) := h ▸ pi_seq p
theorem k_tru {a : Expr} {ta : TE} (ha : PE X a ta) (he : ∀ whole, isTrue a X.env whole = (do let v ← whole; standAt a.pos; holding [v] (truthy v))) (h : X.K = K := by rfl) : PT X a (fun σ H Q => ta σ H fun x H' => ∃ k, TruV K x H' k ∧ Q k H') := h ▸ pt_truth ha he
theorem k_notT {a : Expr} {ta : TE} {pos : Pos} (ha : PE X a ta) (h : X.K = K := by rfl) : PE X (.UnaryOp .Not a pos) (tNotT K ta) := h ▸ pe_notT ha
theorem k_orT {a b : Expr} {rest : List Expr} {ta tb : TE} {pos : Pos} (ha : PE X a ta) (hb : PE X (.BoolOp .Or (b :: rest) pos) tb) (h : X.K = K := by rfl) : PE X (.BoolOp .Or (a :: b :: rest) pos) (tOrT K ta tb) := h ▸ pe_orT ha hb
theorem k_andT {a b : Expr} {rest : List Expr} {ta tb : TE} {pos : Pos} (ha : PE X a ta) (hb : PE X (.BoolOp .And (b :: rest) pos) tb) (h : X.K = K := by rfl) : PE X (.BoolOp .And (a :: b :: rest) pos) (tAndT K ta tb) := h ▸ pe_andT ha hb
theorem k_tup {es : List Expr} {k : Nat} {t : TGs} {n : Nat} {pos : Pos} (hc : X.calm = true) (p : PGs X es t) (h : X.K = K := by rfl)
    (hn : (assignEach es X.env).length = n := by rfl) (hst : (assignEach es X.env).findIdx? (·.1) = none := by rfl) : PG X (.Tuple es k pos) (gTup K n t) := by
  subst h
  exact pg_tup hc p hn hst
end
end Dz

namespace Dz
open PySem PySem.SeqAt PyProof.Rows L2 RZ
/-! ### a def that takes data and gives data, told by a relation -/
def spR (K : PySem.W.Frag) (R : List PyData → PyData → Prop) : Sp := fun vs H Q _ => ∃ S ds d, Same S H ∧ DpAll K S vs ds ∧ R ds d ∧ ∀ v S' H', Grow m0 S H S' H' → Dp K S' v d → Q v H'
section
variable {K : PySem.W.Frag} {l : List Sl} {ta tb te : TE} {tr : TA} {E : XK} {a b c d : PyData} {ds : List PyData} {it n : Nat} {t : Addr}
theorem ev_r {R : List PyData → PyData → Prop} (ha : EvA K tr l ds) (h : R ds d) : Ev K (tCall (spR K R) [] E tr) l d := ev_call ha fun vs S H Q E hs hd q => ⟨S, ds, d, hs, hd, h, q⟩
theorem ex_r {R : List PyData → PyData → Prop} {R1 : List PyData → Nat → Prop} {f : List PyData → PyData} (ha : EvXA K tr l it t n R1) (hp : ∀ as n1, R1 as n1 → R as (f as)) : EvX K (tCall (spR K R) [] E tr) l it t n (fun d n' => ∃ as, R1 as n' ∧ d = f as) :=
  ex_call ha fun as n1 r vs S H Q E hs hd q => ⟨S, as, f as, hs, hd, hp as n1 r, q⟩
/-! ### isinstance of data -/
def tyN : PyData → String
  | .none => "NoneType"
  | .bool _ => "bool"
  | .int _ => "int"
  | .str _ => "str"
  | .list _ => "list"
  | .tuple _ => "tuple"
  | .dict _ => "dict"
theorem tyX_of {S H : Hp} {v : V} (hs : Same S H) (h : Dp K S v a) : TyX K H v (.type (tyN a)) := by
  cases h with
  | non => exact .base .non
  | bl b => exact .base (.bl b)
  | int i => exact .base (.int i)
  | str x => exact .base (.str x)
  | lst h1 h2 =>
    rcases h1 with (h1 | ⟨o, h1⟩) | ⟨o, its, n, h1, h2, _⟩
    · exact .base (.lst (hs _ _ h1))
    · exact .base (.frz (hs _ _ h1))
    · exact .kList h1 h2
  | tup h1 h2 =>
    rcases h1 with (h1 | ⟨o, h1⟩) | ⟨o, its, n, h1, h2, _⟩
    · exact .base (.tup (hs _ _ h1))
    · exact .fTuple (hs _ _ h1)
    · exact .kTuple h1 h2
theorem ev_isi {T : String} {k : Bool} (ha : Ev K ta l a) (hk : kitB (tyN a) T = some k) : Ev K (tCB (rIsi K) (tCons ta (tCons (tC (.ty T)) tNil))) l (.bool k) := fun H0 S H s e hs Q q =>
  ha H0 S H s e hs _ fun x S1 H1 g1 d1 => ⟨x, .ty T, .type (tyN a), .type T, k, rfl, .ty T, tyX_of g1.f d1, kit_ty hk, q _ S1 H1 g1 (.bl k)⟩
end
/-- a def at level 0 with an empty promise -/
theorem Cal.zero {P : Program} {w : World} {K : PySem.W.Frag} {mg : Str → Option Value} {base : Heap} {x : Str} {ps : List Str} {sp : Sp} {f : Addr} {fd : FuncData} (hsp : ∀ vs H Q E, ¬ sp vs H Q E) (hm : mg x = some (.ref f)) (hk : PySem.W.keepIn K (.ref f) = true) (hb : Binds K fd ps []) : Cal P w K mg base 0 x ps sp :=
  ⟨f, fd, ⟨fun vs H Q E h => absurd h (hsp vs H Q E), fun A outer s H args us vs Q E hr he hb' hv h => absurd h (hsp vs H Q E)⟩, hm, hk, hb⟩
theorem in65 {k : Nat} {A : Around} (r : Room k A) : A.units + 65 < cLine := by have := r.un; omega
end Dz
namespace Dz
open PySem L2
theorem d_next {D : Ends} {s : L2.St} {H : Hp} (h : D.nx s H) : tNext D s H := h
end Dz
namespace Dz
open PySem L2
/-- a list of ints of one's own becomes the town -/
theorem At.toTown {C : Cn} {l : List Sl} {s : L2.St} {H : Hp} {i : Nat} {o : Addr} (h : At C l s H) (hi : l[i]? = some (.own o [])) (hm : ∀ a, C.H0 a = none → C.m a) : At C (l.set i (.town o 0)) s H := by
  obtain ⟨S, g, e, b⟩ := h.ex
  have h0 : C.H0 o = none := by
    obtain ⟨v, _, _, h0, _⟩ := e.ok i _ hi
    exact h0
  refine ⟨⟨S, g, e.put hi rfl rfl (Same.refl S) (fun _ z _ => z) (fun _ _ _ z => z) fun v ok => ?_, b⟩, fun t n q => ?_⟩
  · obtain ⟨e1, e2, e3, xs, e4, e5⟩ := ok
    cases e5
    exact ⟨e1, e3, [], e4, Nat.le_refl _, fun z => absurd z (Nat.lt_irrefl _)⟩
  · rcases List.mem_or_eq_of_mem_set q with q | q
    · exact h.tw t n q
    · cases q
      exact hm o h0
end Dz

namespace Dz
open PySem PySem.SeqAt PyProof.Rows L2 RZ SrtO
/-! ### keyword-only parameters -/
theorem kbn0 {K : PySem.W.Frag} {x qual : Str} {params : Arguments} {body : List Stmt} {scope : Scope} {kws : List (Str × V)} {f : Addr} {fd : FuncData} {ps : List Str} (F : FunD K x qual params body scope [] kws f fd) (hk : kws ≠ []) (n : Nat) (ks : List Str) (ms : List (Str × V)) (hms : ∀ q, q ∈ ms → q ∈ kws)
    (g : {α : Type} → List α → List α → List α → List α) (hg : ∀ {vs mz zs : List V} {us mv ws : List Value}, Vals vs us → Vals mz mv → Vals zs ws → Vals (g vs mz zs) (g us mv ws))
    (h : ∀ (D : Addr) (doc pm : Value) (an : Option Addr) (cdv ct : Value) (us mv ws : List Value), us.length = n → mv.length = ms.length → ws.length = ks.length →
      KwChain D ((ms.map (·.1)).zip mv) (bindArgs (PySem.W.fnOf x qual params body scope .none (.ref D) doc pm an cdv ct) { pos := us, kw := ks.zip ws }) (ps.zip (g us mv ws))) :
    ∃ mv, KBn K fd ps n ks (fun us ws => g us mv ws) (fun vs zs => g vs (ms.map (·.2)) zs) := by
  obtain ⟨oc, od, dV, kV, doc, pm, an, cdv, ct, osl, rfl, _, _, hd, hw⟩ := F.ex
  rcases hd with ⟨_, rfl⟩ | ⟨z, _⟩
  · rcases hw with rfl | ⟨D, rfl, hw⟩
    · exact absurd rfl hk
    · obtain ⟨mv, l1, r1, q1⟩ := kwd_vals (K := K) (D := D) (ms := ms) fun q hq => hw q (hms q hq)
      refine ⟨mv, ⟨fun s us ws hK h1 h2 => ?_, fun r r2 => hg r r1 r2⟩⟩
      exact BindsTo.of_looks fun M => KwChain.looks hK q1 (h D doc pm an cdv ct us mv ws h1 l1 h2)
  · exact absurd rfl z
structure CalK (P : Program) (w : World) (K : PySem.W.Frag) (mg : Str → Option Value) (base : Heap) (k : Nat) (x : Str) (ps : List Str) (n : Nat) (ks : List Str) (gV : List V → List V → List V) (sp : Sp) : Prop where
  ex : ∃ f fd g, FnOk P w K mg base CX0 k f fd ps sp ∧ mg x = some (.ref f) ∧ PySem.W.keepIn K (.ref f) = true ∧ KBn K fd ps n ks g gV
theorem CalK.mono {P : Program} {w : World} {K : PySem.W.Frag} {mg : Str → Option Value} {base : Heap} {j k n : Nat} {x : Str} {ps ks : List Str} {gV : List V → List V → List V} {sp : Sp} (c : CalK P w K mg base j x ps n ks gV sp) (h : j ≤ k) : CalK P w K mg base k x ps n ks gV sp := by
  obtain ⟨f, fd, g, a, b⟩ := c.ex
  exact ⟨f, fd, g, a.mono h, b⟩
structure CalD (P : Program) (w : World) (K : PySem.W.Frag) (mg : Str → Option Value) (base : Heap) (k : Nat) (x : Str) (ps : List Str) (dv : List V) (sp : Sp) : Prop where
  ex : ∃ f fd ds, FnOk P w K mg base CX0 k f fd ps sp ∧ mg x = some (.ref f) ∧ PySem.W.keepIn K (.ref f) = true ∧ Vals dv ds ∧ Binds K fd ps ds
theorem CalD.mono {P : Program} {w : World} {K : PySem.W.Frag} {mg : Str → Option Value} {base : Heap} {j k : Nat} {x : Str} {ps : List Str} {dv : List V} {sp : Sp} (c : CalD P w K mg base j x ps dv sp) (h : j ≤ k) : CalD P w K mg base k x ps dv sp := by
  obtain ⟨f, fd, g, a, b⟩ := c.ex
  exact ⟨f, fd, g, a.mono h, b⟩
theorem pe_calK {X : Cx} {k n : Nat} {x : Str} {ps ks : List Str} {gV : List V → List V → List V} {sp : Sp} {p pos : Pos} {e : Expr} {es : List Expr} {kws : List Keyword} {t tk : TA} (c : CalK X.prog X.w X.K X.mg X.base k x ps n ks gV sp) (hr : Room k X.A) (ha : PA X (e :: es) t) (hk : PK X kws tk) (hg : Gl X x := by rfl)
    (h1 : ((backToKw pos (keywordEach kws X.env)).all fun x => x.fst.isSome) = true := by rfl) (h2 : List.filterMap (fun x => x.fst) (backToKw pos (keywordEach kws X.env)) = ks := by rfl)
    (hdb : (x == ("__debug__" : Str)) = false := by decide) (he : starEach (e :: es) X.env = (false, eval e X.env) :: starEach es X.env := by rfl) (hpl : (((backTo pos (starEach (e :: es) X.env)).any fun x => x.fst) || (backToKw pos (keywordEach kws X.env)).any fun x => x.fst.isNone) = false := by rfl) :
    PE X (.Call (.Name x p) (e :: es) kws pos) (tCallN n ks.length sp gV E0 t tk) := by
  obtain ⟨f, fd, g, F, hm, hkp, hb⟩ := c.ex
  exact pe_callN F hr hg hm hkp hb pass0 ha hk h1 h2 hdb he hpl
theorem pe_calD {X : Cx} {k : Nat} {x : Str} {ps : List Str} {dv : List V} {sp : Sp} {p pos : Pos} {e : Expr} {es : List Expr} {t : TA} (c : CalD X.prog X.w X.K X.mg X.base k x ps dv sp) (hr : Room k X.A) (ha : PA X (e :: es) t) (hg : Gl X x := by rfl)
    (hdb : (x == ("__debug__" : Str)) = false := by decide) (he : starEach (e :: es) X.env = (false, eval e X.env) :: starEach es X.env := by rfl) (hpl : (backTo pos (starEach es X.env)).any (·.1) = false := by rfl) :
    PE X (.Call (.Name x p) (e :: es) [] pos) (tCall sp dv E0 t) := by
  obtain ⟨f, fd, ds, F, hm, hk, hv, hb⟩ := c.ex
  exact pe_call F hr hg hm hk hb hv pass0 ha hdb he hpl
variable {K : PySem.W.Frag} {l : List Sl}
theorem ev_callN {n m : Nat} {sp : Sp} {gV : List V → List V → List V} {E : XK} {tr tk : TA} {ds es cs : List PyData} {c : PyData} (ha : EvA K tr l ds) (hk : EvA K tk l es) (hn : ds.length = n) (hm : es.length = m) (hg : ∀ S vs zs, DpAll K S vs ds → DpAll K S zs es → DpAll K S (gV vs zs) cs) (hr : SpD K sp cs c) :
    Ev K (tCallN n m sp gV E tr tk) l c := fun H0 S H s e hs Q q =>
  ha H0 S H s e hs _ fun x S1 H1 g1 d1 => hk H0 S1 H1 s (e.grow g1) g1.f _ fun z S2 H2 g2 d2 =>
    ⟨by rw [DpAll_len d1]; exact hn, by rw [DpAll_len d2]; exact hm, hr _ S2 H2 Q E g2.f (hg S2 x z (DpAll_mono d1 g2.s) d2) fun v S3 H3 g3 d3 => q v S3 H3 ((g1.trans g2).trans g3) d3⟩
theorem ev_callD {sp : Sp} {dv : List V} {E : XK} {tr : TA} {ds es : List PyData} {c : PyData} (ha : EvA K tr l ds) (hg : ∀ S, DpAll K S dv es) (hr : SpD K sp (ds ++ es) c) : Ev K (tCall sp dv E tr) l c := fun H0 S H s e hs Q q =>
  ha H0 S H s e hs _ fun x S1 H1 g1 d1 => hr (x ++ dv) S1 H1 Q E g1.f (DpAll_app d1 (hg S1)) fun v S3 H3 g3 d3 => q v S3 H3 (g1.trans g3) d3
/-! ### what the top has written: a def with keyword-only parameters -/
def KwI (K : PySem.W.Frag) (D : Addr) (kws : List (Str × Int)) : Prop := ∀ q, q ∈ kws → ∃ t, PySem.W.nsIn K D q.1 = some (some (.int q.2 t))
theorem kw_nil {K : PySem.W.Frag} {D : Addr} : KwI K D [] := fun _ h => nomatch h
theorem kw_cons {K : PySem.W.Frag} {D : Addr} {x : Str} {i : Int} {tk : Tok} {r : List (Str × Int)} (h : PySem.W.nsIn K D x = some (some (.int i tk))) (t : KwI K D r) : KwI K D ((x, i) :: r) := fun q hq => by
  rcases List.mem_cons.mp hq with rfl | hq
  · exact ⟨tk, h⟩
  · exact t q hq
structure DefAtK (K : PySem.W.Frag) (x : Str) (st : Stmt) (kws : List (Str × Int)) : Prop where
  at_ : ∃ (f : Addr) (oc : Value) (od : Option Addr) (D : Addr) (dc pm : Value) (an : Option Addr) (cd ct : Value) (sl : Array (Option Value)), PySem.W.nsIn K mainGlobals x = some (some (.ref f)) ∧
    K.lookup f = some ⟨oc, od, .func (PySem.W.fnOf x x (defArgs st) (defBody st) (defScope st) .none (.ref D) dc pm an cd ct), sl⟩ ∧ PySem.W.codeIn K cd x = true ∧ PySem.W.keepIn K (.ref f) = true ∧ KwI K D kws
theorem def_atK {K : PySem.W.Frag} {x : Str} {st : Stmt} {kws : List (Str × Int)} {f : Addr} {oc : Value} {od an : Option Addr} {D : Addr} {dc pm cd ct : Value} {sl : Array (Option Value)} (a : PySem.W.nsIn K mainGlobals x = some (some (.ref f)))
    (l : K.lookup f = some ⟨oc, od, .func (PySem.W.fnOf x x (defArgs st) (defBody st) (defScope st) .none (.ref D) dc pm an cd ct), sl⟩) (c : PySem.W.codeIn K cd x = true) (k : PySem.W.keepIn K (.ref f) = true) (q : KwI K D kws) : DefAtK K x st kws := ⟨f, oc, od, D, dc, pm, an, cd, ct, sl, a, l, c, k, q⟩
abbrev FunK (K : PySem.W.Frag) (x : Str) (st : Stmt) (kws : List (Str × Int)) (f : Addr) (fd : FuncData) : Prop := FunD K x x (defArgs st) (defBody st) (defScope st) [] (kws.map fun q => (q.1, V.int q.2)) f fd
theorem DefAtK.ex {K : PySem.W.Frag} {x : Str} {st : Stmt} {kws : List (Str × Int)} {h : Heap} {mg : Str → Option Value} (d : DefAtK K x st kws) (X : K.In h) (G : h.Ns mainGlobals mg) : ∃ (f : Addr) (fd : FuncData), FunK K x st kws f fd ∧ mg x = some (.ref f) := by
  obtain ⟨f, oc, od, D, dc, pm, an, cd, ct, sl, a, l, c, k, q⟩ := d.at_
  refine ⟨f, _, ⟨⟨oc, od, .none, .ref D, dc, pm, an, cd, ct, sl, rfl, l, c, .inl ⟨rfl, rfl⟩, .inr ⟨D, rfl, fun p hp => ?_⟩⟩, k⟩, PySem.W.mg_of X G a⟩
  obtain ⟨u, hu, rfl⟩ := List.mem_map.mp hp
  obtain ⟨tk, ht⟩ := q u hu
  exact ⟨_, ht, ⟨_, rfl⟩⟩
/-! ### a row put in order -/
def sortI (ns : List Int) : List Int := ns.mergeSort (fun a b => decide (a ≤ b))
theorem sortI_perm (ns : List Int) : (sortI ns).Perm ns := List.mergeSort_perm _ _
theorem sortI_le (ns : List Int) : (sortI ns).Pairwise (· ≤ ·) := by
  have h := List.pairwise_mergeSort (le := fun (a b : Int) => decide (a ≤ b)) (fun a b c h1 h2 => by simp at *; omega) (fun a b => by simp; omega) ns
  exact h.imp (by intro a b h; simpa using h)
theorem sorted_uniq : ∀ {xs ys : List Int}, xs.Perm ys → xs.Pairwise (· ≤ ·) → ys.Pairwise (· ≤ ·) → xs = ys
  | [], ys, h, _, _ => by rw [List.nil_perm.mp h]
  | x :: xs, [], h, _, _ => by simp at h
  | x :: xs, y :: ys, h, h1, h2 => by
    have hx : x ∈ y :: ys := h.mem_iff.mp List.mem_cons_self
    have hy : y ∈ x :: xs := h.mem_iff.mpr List.mem_cons_self
    have e : x = y := by
      rcases List.mem_cons.mp hx with e | hx
      · exact e
      rcases List.mem_cons.mp hy with e | hy
      · exact e.symm
      have a := (List.pairwise_cons.mp h1).1 y hy
      have b := (List.pairwise_cons.mp h2).1 x hx
      omega
    subst e
    rw [sorted_uniq (List.Perm.cons_inv h) (List.pairwise_cons.mp h1).2 (List.pairwise_cons.mp h2).2]
theorem sortI_is {ns ms : List Int} (h : ms.Perm ns) (h2 : ms.Pairwise (· ≤ ·)) : ms = sortI ns := sorted_uniq (h.trans (sortI_perm ns).symm) h2 (sortI_le ns)
theorem sortI_len (ns : List Int) : (sortI ns).length = ns.length := (sortI_perm ns).length_eq
theorem sortI_first {ns : List Int} (h : ns ≠ []) : (sortI ns)[0]? = some (minI ns) := by
  have hp := sortI_perm ns
  have hle := sortI_le ns
  cases e : sortI ns with
  | nil =>
    rw [e] at hp
    exact absurd (List.nil_perm.mp hp) h
  | cons x r =>
    rw [e] at hp hle
    have : minI ns = x := minI_is (hp.mem_iff.mp List.mem_cons_self) fun y hy => by
      rcases List.mem_cons.mp (hp.mem_iff.mpr hy) with rfl | q
      · exact Int.le_refl _
      · exact (List.pairwise_cons.mp hle).1 y q
    rw [this]
    rfl
theorem sortI_last {ns : List Int} (h : ns ≠ []) : (sortI ns)[ns.length - 1]? = some (maxI ns) := by
  have hp := sortI_perm ns
  have hle := sortI_le ns
  have hl := sortI_len ns
  have hpos : 0 < ns.length := List.length_pos_iff.mpr h
  have hlt : ns.length - 1 < (sortI ns).length := by omega
  rw [List.getElem?_eq_getElem hlt]
  refine congrArg some (maxI_is (hp.mem_iff.mp (List.getElem_mem hlt)) fun y hy => ?_).symm
  obtain ⟨i, hi, rfl⟩ := List.mem_iff_getElem.mp (hp.mem_iff.mpr hy)
  by_cases e : i = ns.length - 1
  · subst e
    exact Int.le_refl _
  · exact List.pairwise_iff_getElem.mp hle i (ns.length - 1) hi hlt (by omega)
theorem rc_sorted {ns : List Int} : RCD K (rSortedI K) [.list (ns.map .int)] (.list ((sortI ns).map .int)) := fun vs S H Q hs hx q => by
  cases hx with
  | cons h1 h2 =>
    cases h2
    cases h1 with
    | lst h3 h4 =>
      rw [ints_of h4] at h3
      exact ⟨_, ns, rfl, hs.seq h3, fun ns' p hp hle hn => by
        rw [sortI_is hp hle]
        exact new_lst hs (DpAll_ints _) q p hn⟩
theorem rc_max2 {i j : Int} : RCD K (fun xs H Q => ∃ i j, xs = [.int i, .int j] ∧ Q (.int (if j > i then j else i)) H) [.int i, .int j] (.int (max i j)) := fun vs S H Q hs hx q => by
  cases hx with
  | cons h1 h2 =>
    cases h2 with
    | cons h2 h3 =>
      cases h3; cases h1; cases h2
      have e : (if j > i then j else i) = max i j := by split <;> omega
      exact ⟨i, j, rfl, by rw [e]; exact q _ S H (Grow.refl hs) (.int _)⟩
theorem rc_min2 {i j : Int} : RCD K (fun xs H Q => ∃ i j, xs = [.int i, .int j] ∧ Q (.int (if j < i then j else i)) H) [.int i, .int j] (.int (min i j)) := fun vs S H Q hs hx q => by
  cases hx with
  | cons h1 h2 =>
    cases h2 with
    | cons h2 h3 =>
      cases h3; cases h1; cases h2
      have e : (if j < i then j else i) = min i j := by split <;> omega
      exact ⟨i, j, rfl, by rw [e]; exact q _ S H (Grow.refl hs) (.int _)⟩
/-! ### draws, step by step -/
section
variable {it n : Nat} {t : Addr} {ta tb te : TE} {tt : TT} {tr : TA} {r : V → V → Hp → VK → Prop} {R : PyData → Nat → Prop} {RA : List PyData → Nat → Prop} {RB : Bool → Nat → Prop}
theorem xw_ev {d : PyData} (h : Ev K te l d) (q : R d n) : EvX K te l it t n R := ex_mono (ex_ev h) fun _ _ ⟨e1, e2⟩ => e1 ▸ e2 ▸ q
theorem xw_op {R1 : PyData → Nat → Prop} (ha : EvX K ta l it t n R1) (hb : ∀ a n1, R1 a n1 → EvX K tb (l.set it (.town t n1)) it t n1 (fun b n2 => ∃ c, RD K r a b c ∧ R c n2)) : EvX K (tOp r ta tb) l it t n R := fun H0 S H s e hl hs Q q =>
  ha H0 S H s e hl hs _ fun x S1 H1 a n1 r1 g1 t1 d1 => hb a n1 r1 H0 S1 H1 s (e.town hl g1 t1) (town_at hl) g1.f _ fun y S2 H2 b n2 ⟨c, hr, r2⟩ g2 t2 d2 =>
    hr x y S2 H2 Q g2.f (Dp_mono d1 g2.s) d2 fun v S3 H3 g3 d3 => q v S3 H3 c n2 r2 ((g1.trans g2).trans g3.any) (t2.grow g3) d3
theorem xw_opR {R1 : PyData → Nat → Prop} (ha : EvX K ta l it t n R1) (hb : ∀ a n1, R1 a n1 → ∃ b c, Ev K tb (l.set it (.town t n1)) b ∧ RD K r a b c ∧ R c n1) : EvX K (tOp r ta tb) l it t n R :=
  xw_op ha fun a n1 h1 => by
    obtain ⟨b, c, h2, h3, h4⟩ := hb a n1 h1
    exact xw_ev h2 ⟨c, h3, h4⟩
theorem xw_opL {a : PyData} (ha : Ev K ta l a) (hb : EvX K tb l it t n (fun b n2 => ∃ c, RD K r a b c ∧ R c n2)) : EvX K (tOp r ta tb) l it t n R := fun H0 S H s e hl hs Q q =>
  ha H0 S H s e hs _ fun x S1 H1 g1 d1 => hb H0 S1 H1 s (e.grow g1) hl g1.f _ fun y S2 H2 b n2 ⟨c, hr, r2⟩ g2 t2 d2 =>
    hr x y S2 H2 Q g2.f (Dp_mono d1 g2.s) d2 fun v S3 H3 g3 d3 => q v S3 H3 c n2 r2 ((g1.any.trans g2).trans g3.any) (t2.grow g3) d3
theorem xw_nil (q : RA [] n) : EvXA K tNil l it t n RA := fun H0 S H s e hl hs Q k => k [] S H [] n q (Grow.refl hs) (e.townAt hl) .nil
theorem xw_cons {R1 : PyData → Nat → Prop} (ha : EvX K ta l it t n R1) (hb : ∀ a n1, R1 a n1 → EvXA K tr (l.set it (.town t n1)) it t n1 (fun ds n2 => RA (a :: ds) n2)) : EvXA K (tCons ta tr) l it t n RA := fun H0 S H s e hl hs Q q =>
  ha H0 S H s e hl hs _ fun x S1 H1 a n1 r1 g1 t1 d1 => hb a n1 r1 H0 S1 H1 s (e.town hl g1 t1) (town_at hl) g1.f _ fun y S2 H2 b n2 r2 g2 t2 d2 =>
    q (x :: y) S2 H2 (a :: b) n2 r2 (g1.trans g2) t2 (.cons (Dp_mono d1 g2.s) d2)
theorem xw_consE {a : PyData} (ha : Ev K ta l a) (hb : EvXA K tr l it t n (fun ds n2 => RA (a :: ds) n2)) : EvXA K (tCons ta tr) l it t n RA := fun H0 S H s e hl hs Q q =>
  ha H0 S H s e hs _ fun x S1 H1 g1 d1 => hb H0 S1 H1 s (e.grow g1) hl g1.f _ fun y S2 H2 b n2 r2 g2 t2 d2 =>
    q (x :: y) S2 H2 (a :: b) n2 r2 (g1.any.trans g2) t2 (.cons (Dp_mono d1 g2.s) d2)
theorem xw_tup (ha : EvXA K tr l it t n (fun ds n' => ds.length ≤ 100000 ∧ R (.tuple ds) n')) : EvX K (tTup tr) l it t n R := ex_mono (ex_tup ha fun _ _ h => h.1) fun _ _ ⟨ds, h, e⟩ => e ▸ h.2
theorem xw_lst (ha : EvXA K tr l it t n (fun ds n' => ds.length ≤ 100000 ∧ R (.list ds) n')) : EvX K (tLst tr) l it t n R := ex_mono (ex_lst ha fun _ _ h => h.1) fun _ _ ⟨ds, h, e⟩ => e ▸ h.2
theorem xw_cb {rr : List V → Hp → VK → Prop} (ha : EvXA K tr l it t n (fun as n' => ∃ d, RCD K rr as d ∧ R d n')) : EvX K (tCB rr tr) l it t n R := fun H0 S H s e hl hs Q q =>
  ha H0 S H s e hl hs _ fun x S1 H1 as n1 ⟨d, hr, r1⟩ g1 t1 d1 => hr x S1 H1 Q g1.f d1 fun v S3 H3 g3 d3 => q v S3 H3 d n1 r1 (g1.trans g3.any) (t1.grow g3) d3
theorem xw_call {sp : Sp} {E : XK} (ha : EvXA K tr l it t n (fun as n' => ∃ d, SpD K sp as d ∧ R d n')) : EvX K (tCall sp [] E tr) l it t n R := fun H0 S H s e hl hs Q q =>
  ha H0 S H s e hl hs _ fun x S1 H1 as n1 ⟨d, hr, r1⟩ g1 t1 d1 => hr (x ++ []) S1 H1 Q E g1.f (by rw [List.append_nil]; exact d1) fun v S3 H3 g3 d3 => q v S3 H3 d n1 r1 (g1.trans g3.any) (t1.grow g3) d3
theorem xw_r {RR : List PyData → PyData → Prop} {E : XK} (ha : EvXA K tr l it t n (fun as n' => ∃ d, RR as d ∧ R d n')) : EvX K (tCall (spR K RR) [] E tr) l it t n R :=
  xw_call fun H0 S H s e hl hs Q q => ha H0 S H s e hl hs Q fun v S1 H1 as n1 ⟨d, h1, h2⟩ => q v S1 H1 as n1 ⟨d, fun vs S H Q E hs hd q => ⟨S, as, d, hs, hd, h1, q⟩, h2⟩
theorem xw_dr {pre : PyData → List PyData → Nat → Prop} {res : List PyData → Nat → PyData → Nat → Prop} {E : XK} {i0 : Nat} {sc : PyData} (h0 : l[i0]? = some (.dat sc)) (h1 : l[it]? = some (.town t n))
    (ha : EvXA K tr l it t n (fun as n1 => pre sc as n1 ∧ ∀ d n', res as n1 d n' → R d n')) : EvX K (tCall (spT K pre res) [] E (tCons (tVar i0) (tCons (tVar it) tr))) l it t n R :=
  ex_mono (ex_dr h0 h1 ha fun _ _ h => h.1) fun d n' ⟨as, n1, h, r⟩ => h.2 d n' r
theorem xw_test (ha : EvX K te l it t n (fun d n' => ∃ b, d = .bool b ∧ RB b n')) : EvXT K (tTest te) l it t n RB := fun H0 S H s e hl hs Q q =>
  ha H0 S H s e hl hs _ fun x S1 H1 d n1 ⟨b, e1, r1⟩ g1 t1 d1 => by
    subst e1
    cases d1
    exact ⟨b, rfl, q S1 H1 b n1 r1 g1 t1⟩
end
section
variable {C : Cn} {l' : List Sl} {te : TE} {i it n : Nat} {t : Addr} {s : L2.St} {H : Hp} {D : Ends} {g : TG}
theorem dx_asgB {R : PyData → Nat → Prop} (h : At C l s H) (hi : l[it]? = some (.town t n)) (he : EvX C.K te l it t n R) (k : ∀ d n', R d n' → ∃ l', Bd C.K g (l.set it (.town t n')) d l' ∧ (∀ t n, Sl.town t n ∈ l' → C.m t) ∧ ∀ s' H', At C l' s' H' → D.nx s' H') : tAsg te g D s H :=
  h.stepX hi he fun v S' H' d n' r g' e b d1 => by
    obtain ⟨l', hb, ht, hk⟩ := k d n' r
    exact hb C.H0 S' H' s v _ e g'.f d1 fun s2 e2 => hk _ _ ⟨⟨S', g', e2, b⟩, ht⟩
end
section
variable {C : Cn} {ta tb : TE} {a : PyData} {ds : List PyData} {i j : Nat} {s : L2.St} {H : Hp} {D : Ends}
/-- x, y = e1, e2 by way of a tuple: data and a new list -/
theorem d_asgDL (h : At C l s H) (ha : Ev C.K ta l a) (hb : EvL C.K tb l ds) (k : ∀ p s' H', At C ((l.set i (.dat a)).set j (.own p ds)) s' H' → D.nx s' H') : tAsg (tTup (tCons ta (tCons tb tNil))) (gTup C.K 2 (gCons (gName i) (gCons (gName j) gNil))) D s H := by
  obtain ⟨S, g, e, b0⟩ := h.ex
  refine ha C.H0 S H s e g.f _ fun x S1 H1 g1 d1 => hb C.H0 S1 H1 s (e.grow g1) g1.f _ fun p S2 H2 xs g2 hp sp hx hd => ⟨szl (show 2 ≤ 100000 by decide), fun T hT => ⟨T, [x, .ref p], rfl, .inl (.inl upd_same), rfl, x, _, rfl, .ref p, _, rfl, rfl, k p _ _ ?_⟩⟩
  have h1 : At C (l.set i (.dat a)) (s.set i (some x)) H1 := ⟨⟨S1, g.trans g1.any, (e.grow g1).dat d1, b0.trans g1.s⟩, tw_set h.tw fun _ _ z => nomatch z⟩
  have g3 : Grow m0 S2 H2 S2 (upd H2 T (.tup [x, .ref p])) := Grow.out g2.f hT
  have hpT : p ≠ T := fun z => by rw [z, hT] at hx; cases hx
  exact h1.own (g.trans g1.any) ((e.grow g1).dat d1) (b0.trans g1.s) (g2.trans g3) hp sp (by rw [upd_ne hpT]; exact hx) hd
end
section
variable {C : Cn} {ta : TA} {ds : List PyData} {i j m it n : Nat} {t : Addr} {s : L2.St} {H : Hp} {D : Ends}
theorem At.stepXA {R : List PyData → Nat → Prop} (h : At C l s H) (hi : l[it]? = some (.town t n)) (he : EvXA C.K ta l it t n R) {Q : List V → Hp → Prop} (q : ∀ v S' H' d n', R d n' → Grow C.m C.S0 C.H0 S' H' → Env C.K C.H0 S' H' s (l.set it (.town t n')) → Same C.Sb S' → DpAll C.K S' v d → Q v H') : ta s H Q := by
  obtain ⟨S, g, e, b⟩ := h.ex
  have hm : C.m t := h.tw t n (List.mem_of_getElem? hi)
  exact he C.H0 S H s e hi g.f Q fun v S' H' d n' r g1 t1 d1 => q v S' H' d n' r (g.trans (g1.mono fun x hx => by cases hx; exact hm)) (e.town hi g1 t1) (b.trans g1.s) d1
theorem dx_par {R : List PyData → Nat → Prop} (h : At C l s H) (hi : l[it]? = some (.town t n)) (he : EvXA C.K ta l it t n R) (hR : ∀ ds n', R ds n' → ds.length = 2) (k : ∀ a b n' s' H', R [a, b] n' → At C (((l.set it (.town t n')).set i (.dat a)).set j (.dat b)) s' H' → D.nx s' H') : tPar i j ta D s H :=
  h.stepXA hi he fun v S' H' d n' r g e b d1 => by
    have hl := hR d n' r
    match d, hl with
    | [x, y], _ =>
      cases d1 with
      | cons q1 d2 => cases d2 with
        | cons q2 d3 =>
          cases d3
          exact ⟨_, _, rfl, k x y n' _ _ r ⟨⟨S', g, (e.dat q1).dat q2, b⟩, tw_set (tw_set (tw_town h.tw hi) fun _ _ z => nomatch z) fun _ _ z => nomatch z⟩⟩
theorem dx_par3 {R : List PyData → Nat → Prop} (h : At C l s H) (hi : l[it]? = some (.town t n)) (he : EvXA C.K ta l it t n R) (hR : ∀ ds n', R ds n' → ds.length = 3) (k : ∀ a b c n' s' H', R [a, b, c] n' → At C ((((l.set it (.town t n')).set i (.dat a)).set j (.dat b)).set m (.dat c)) s' H' → D.nx s' H') : tPar3 i j m ta D s H :=
  h.stepXA hi he fun v S' H' d n' r g e b d1 => by
    have hl := hR d n' r
    match d, hl with
    | [x, y, z], _ =>
      cases d1 with
      | cons q1 d2 => cases d2 with
        | cons q2 d3 => cases d3 with
          | cons q3 d4 =>
            cases d4
            exact ⟨_, _, _, rfl, k x y z n' _ _ r ⟨⟨S', g, ((e.dat q1).dat q2).dat q3, b⟩, tw_set (tw_set (tw_set (tw_town h.tw hi) fun _ _ z => nomatch z) fun _ _ z => nomatch z) fun _ _ z => nomatch z⟩⟩
theorem d_par3 {a b c : PyData} (h : At C l s H) (he : EvA C.K ta l [a, b, c]) (k : ∀ s' H', At C (((l.set i (.dat a)).set j (.dat b)).set m (.dat c)) s' H' → D.nx s' H') : tPar3 i j m ta D s H := by
  obtain ⟨S, g, e, b0⟩ := h.ex
  refine he C.H0 S H s e g.f _ fun v S' H' g1 d1 => ?_
  cases d1 with
  | cons q1 d2 => cases d2 with
    | cons q2 d3 => cases d3 with
      | cons q3 d4 =>
        cases d4
        exact ⟨_, _, _, rfl, k _ _ ⟨⟨S', g.trans g1.any, (((e.grow g1).dat q1).dat q2).dat q3, b0.trans g1.s⟩, tw_set (tw_set (tw_set h.tw fun _ _ z => nomatch z) fun _ _ z => nomatch z) fun _ _ z => nomatch z⟩⟩
end
end Dz

namespace Dz
open PySem PySem.SeqAt PyProof.Rows L2 RZ
/-! ### a starred target -/
def gStar (K : PySem.W.Frag) (n i : Nat) (t : TGs) : TG := fun v σ H Q => ∃ a xs, v = .ref a ∧ (SqL K H a xs ∨ SqT K H a xs) ∧ n ≤ xs.length + 1 ∧ xs.length ≤ 16384 ∧
  ∀ p, H p = none → t (xs.take i ++ [.ref p] ++ (xs.drop i).drop (xs.length + 1 - n)) σ (upd H p (.lst ((xs.drop i).take (xs.length + 1 - n)))) Q
theorem obj_ex {P : Program} {w : World} {H : Hp} {h : Heap} {a : Addr} : ∀ {o : HO}, ObjOk P w H h a o → ∃ u, h.get? a = some u
  | .lst _, q => by obtain ⟨_, _, _, _, e⟩ := q; exact ⟨_, e⟩
  | .tup _, q => by obtain ⟨_, _, _, _, e, _⟩ := q; exact ⟨_, e⟩
  | .dK _, q => by obtain ⟨_, _, _, _, _, _, _, e, _⟩ := q; exact ⟨_, e⟩
  | .dT _, q => by obtain ⟨_, _, _, _, _, _, _, e, _⟩ := q; exact ⟨_, e⟩
  | .set _ _, q => by obtain ⟨_, _, _, _, e, _⟩ := q; exact ⟨_, e⟩
  | .ins _ _ _, q => by obtain ⟨_, _, _, e, _⟩ := q; exact ⟨_, e⟩
  | .own _, q => q
  | .xd _, q => by obtain ⟨_, ⟨_, _, _, e, _⟩, _⟩ := q; exact ⟨_, e⟩
  | .met _ _, q => ⟨_, q⟩
  | .rng _ _, q => by obtain ⟨_, _, _, e⟩ := q; exact ⟨_, e⟩
  | .frz _ _, q => ⟨_, q.1⟩
  | .tbl _, q => ⟨_, q⟩
  | .ext _, q => q.2.1
/-- a new list is laid, all else but the frame's own object is kept, its names too -/
theorem inv_news {X : Cx} {pins : List (Addr × Obj)} {σ : L2.St} {H : Hp} {s : Shared} {h' : Heap} {tk : Nat} {D : Addr} {m : Str → Option Value} {its : List Value} {xs : List V} (I : Inv X pins σ H s) (F : Fr X.base X.env.locals s.heap m) (F' : Fr X.base X.env.locals h' m)
    (N' : News X.base X.env.locals h' ((D, PySem.W.listOf its.toArray 0) :: allNews X.base s.heap X.env.locals)) (l1 : ∀ p ∈ allNews X.base s.heap X.env.locals, p.1 < D) (rv : Vals xs its) (hz : xs.length ≤ sizeLine) :
    H D = none ∧ Inv X pins σ (upd H D (.lst xs)) { s with heap := h', toks := tk } := by
  obtain ⟨d1, d2, d3⟩ := N' _ List.mem_cons_self
  have d2 : D ≠ X.env.locals := d2
  have d3 : X.base.get? D = none := d3
  have old : ∀ b o, b ≠ X.env.locals → s.heap.get? b = some o → h'.get? b = some o := fun b o hb e => by
    cases q : X.base.get? b with
    | some u =>
      have e2 := I.bk b u q
      rw [e] at e2
      cases e2
      exact F'.keep b _ q
    | none => exact (N' (b, o) (List.mem_cons_of_mem _ (mem_allNews hb q e))).1
  have hn : s.heap.get? D = none := by
    cases q : s.heap.get? D with
    | none => rfl
    | some o => exact absurd (l1 (D, o) (mem_allNews d2 d3 q)) (Nat.lt_irrefl _)
  have hD : H D = none := by
    cases q : H D with
    | none => rfl
    | some u =>
      obtain ⟨o, e⟩ := obj_ex (I.hok D u q)
      rw [hn] at e
      cases e
  have neD : ∀ b o, s.heap.get? b = some o → b ≠ D := fun b o e z => by rw [z, hn] at e; cases e
  have ntr : ∀ b u, H b = some u → b ≠ X.env.locals := fun b u e z => by rw [z, I.free] at e; cases e
  refine ⟨hD, I.step (g' := s.gens) (d' := s.drawn) (t' := tk) (ch := []) (fun _ z => nomatch z) (fun b o hb _ _ e _ => old b o hb e) (fun b o hb _ _ e _ => ⟨o.slots, old b o hb e⟩) (fun b o _ e q => by rw [upd_ne (neD b o e)]; exact q) (fun b o _ e => ?_)
    (fun b ys e => by rw [upd_ne (ne_of_none e hD)]; exact e) (fun b o u e => by rw [upd_ne (ne_of_none e hD)]; exact e) (fun b ps e => ⟨#[], by rw [upd_ne (ne_of_none e hD), e]; simp⟩) (fun m' hm => ?_) (fun a o e => ?_) I.bare⟩
  · by_cases hb : b = X.env.locals
    · subst hb
      obtain ⟨o', _, _, e', _⟩ := F'.ns
      exact ⟨o', e'⟩
    · exact ⟨o, old b o hb e⟩
  · rw [SlX.ns_only hm F.ns]
    exact F'.ns
  · by_cases ha : a = D
    · subst ha
      rw [upd_same] at e
      cases e
      exact ⟨hz, its, 0, rv, d1⟩
    · rw [upd_ne ha] at e
      refine (I.hok a o e).stay (fun c u hc q => old c u ?_ q) (fun c q => by rw [upd_ne (ne_of_none q hD)]; exact q) fun c ys q => by rw [upd_ne (ne_of_none q hD)]; exact q
      rcases hc with rfl | hc
      · exact ntr c o e
      · exact ntr c _ hc
theorem pg_star {X : Cx} {es : List Expr} {k n i : Nat} {t : TGs} {pos : Pos} (K : PySem.W.Frag) (hc : X.calm = true) (h : PGs X es t) (hi : i < n) (hK : X.K = K := by rfl) (hn : (assignEach es X.env).length = n := by rfl) (hst : (assignEach es X.env).findIdx? (·.1) = some i := by rfl) : PG X (.Tuple es k pos) (gStar K n i t) := by
  subst hK
  refine ⟨fun pins s σ H v u Q I r hw => ?_⟩
  obtain ⟨a, xs, e1, hq, hl, hz, hw⟩ := hw
  subst e1
  cases r
  obtain ⟨m, F⟩ := I.fr
  rcases hq with hq | hq
  · obtain ⟨its, rv, ht, _⟩ := I.list hq
    have e2 := rv.length
    refine PySem.W.kun_assignL F news_all ht.isList (I.ok.hd hc) hn hst hi (by simp only [List.size_toArray]; omega) (by simp only [List.size_toArray]; omega) rfl rfl rfl fun D h' tk F' N' l1 => ?_
    simp only [List.size_toArray] at N' ⊢
    have rm : Vals ((xs.drop i).take (xs.length + 1 - n)) ((its.drop i).take (its.length + 1 - n)) := by rw [e2]; exact (rv.drop i).take _
    obtain ⟨hD, I'⟩ := inv_news (tk := tk) I F F' N' l1 rm (by
      have h2 := List.length_take (i := xs.length + 1 - n) (l := xs.drop i)
      rw [List.length_drop] at h2
      rw [sizeLine_eq]
      omega)
    refine h.run pins _ σ _ _ _ Q I' ?_ (hw D hD)
    rw [e2]
    exact ((rv.take i).append (.cons (show RelV (.ref D) (Value.ref D) from rfl) .nil)).append ((rv.drop i).drop _)
  · obtain ⟨its, rv, ht, _⟩ := I.tuple hq
    have e2 := rv.length
    refine PySem.W.kun_assignT F news_all ht (I.ok.hd hc) hn hst hi (by simp only [List.size_toArray]; omega) (by simp only [List.size_toArray]; omega) rfl rfl rfl fun D h' tk F' N' l1 => ?_
    simp only [List.size_toArray] at N' ⊢
    have rm : Vals ((xs.drop i).take (xs.length + 1 - n)) ((its.drop i).take (its.length + 1 - n)) := by rw [e2]; exact (rv.drop i).take _
    obtain ⟨hD, I'⟩ := inv_news (tk := tk) I F F' N' l1 rm (by
      have h2 := List.length_take (i := xs.length + 1 - n) (l := xs.drop i)
      rw [List.length_drop] at h2
      rw [sizeLine_eq]
      omega)
    refine h.run pins _ σ _ _ _ Q I' ?_ (hw D hD)
    rw [e2]
    exact ((rv.take i).append (.cons (show RelV (.ref D) (Value.ref D) from rfl) .nil)).append ((rv.drop i).drop _)
theorem pgs_star {X : Cx} {e : Expr} {es : List Expr} {t : TG} {u : TGs} {p : Pos} (h1 : PG X e t) (h2 : PGs X es u) : PGs X (.Starred e p :: es) (gCons t u) := by
  refine ⟨fun pins s σ H vs us Q I r h => ?_⟩
  obtain ⟨v, vr, e1, h⟩ := h
  subst e1
  cases r with
  | cons r rr =>
    show wpAny _ _ (assignInOrder (assign e X.env :: (assignEach es X.env).map (·.2)) _) _ _ _
    refine assignInOrder_cons (thn (h1.run pins s σ H _ _ _ I r h) fun _ s1 ⟨σ1, H1, I1, q1⟩ => ?_)
    exact h2.run pins s1 σ1 H1 _ _ Q I1 rr q1
/-! ### a target that makes a new object -/
def BdG (K : PySem.W.Frag) (g : TG) (l : List Sl) (d : PyData) (l' : List Sl) : Prop := ∀ H0 S H s v (Q : L2.St → Hp → Prop), Env K H0 S H s l → Same S H → Dp K S v d → (∀ s' S' H', Grow m0 S H S' H' → Env K H0 S' H' s' l' → Q s' H') → g v s H Q
section
variable {K : PySem.W.Frag} {l l' : List Sl} {ds : List PyData} {n i : Nat} {t : TGs}
theorem star_run {S H H0 : Hp} {s : L2.St} {Q : L2.St → Hp → Prop} {xs : List V} (e : Env K H0 S H s l) (hs : Same S H) (hd : DpAll K S xs ds) (h : Bds K t l (ds.take i ++ [.list ((ds.drop i).take (ds.length + 1 - n))] ++ (ds.drop i).drop (ds.length + 1 - n)) l')
    (q : ∀ s' S' H', Grow m0 S H S' H' → Env K H0 S' H' s' l' → Q s' H') (p : Addr) (hp : H p = none) : t (xs.take i ++ [.ref p] ++ (xs.drop i).drop (xs.length + 1 - n)) s (upd H p (.lst ((xs.drop i).take (xs.length + 1 - n)))) Q := by
  have g2 : Grow m0 S H (upd S p (.lst ((xs.drop i).take (xs.length + 1 - n)))) (upd H p (.lst ((xs.drop i).take (xs.length + 1 - n)))) := Grow.new hs hp
  have hl := DpAll_len hd
  refine h H0 _ _ s _ Q (e.grow g2) g2.f ?_ fun s' e' => q s' _ _ g2 e'
  have d2 := DpAll_mono hd g2.s
  rw [← hl]
  refine DpAll_app (DpAll_app (DpAll_take i d2) (.cons (.lst (.inl (.inl upd_same)) (DpAll_take _ (DpAll_drop i d2))) .nil)) (DpAll_drop _ (DpAll_drop i d2))
theorem bdg_starT (hn : n ≤ ds.length + 1) (hz : ds.length ≤ 16384) (h : Bds K t l (ds.take i ++ [.list ((ds.drop i).take (ds.length + 1 - n))] ++ (ds.drop i).drop (ds.length + 1 - n)) l') : BdG K (gStar K n i t) l (.tuple ds) l' := fun H0 S H s v Q e hs hd q => by
  cases hd with
  | tup h3 h4 =>
    have hl := DpAll_len h4
    exact ⟨_, _, rfl, .inr (same_seqT hs h3), by omega, by omega, fun p hp => star_run e hs h4 h q p hp⟩
theorem bdg_starL (hn : n ≤ ds.length + 1) (hz : ds.length ≤ 16384) (h : Bds K t l (ds.take i ++ [.list ((ds.drop i).take (ds.length + 1 - n))] ++ (ds.drop i).drop (ds.length + 1 - n)) l') : BdG K (gStar K n i t) l (.list ds) l' := fun H0 S H s v Q e hs hd q => by
  cases hd with
  | lst h3 h4 =>
    have hl := DpAll_len h4
    exact ⟨_, _, rfl, .inl (hs.seq h3), by omega, by omega, fun p hp => star_run e hs h4 h q p hp⟩
theorem d_asgG {C : Cn} {s : L2.St} {H : Hp} {D : Ends} {te : TE} {d : PyData} {g : TG} (h : At C l s H) (he : Ev C.K te l d) (hb : BdG C.K g l d l') (ht : ∀ t n, Sl.town t n ∈ l' → C.m t) (k : ∀ s' H', At C l' s' H' → D.nx s' H') : tAsg te g D s H := by
  obtain ⟨S, g0, e, b⟩ := h.ex
  exact he C.H0 S H s e g0.f _ fun v S1 H1 g1 d1 => hb C.H0 S1 H1 s v _ (e.grow g1) g1.f d1 fun s2 S2 H2 g2 e2 => k _ _ ⟨⟨S2, g0.trans (g1.trans g2).any, e2, b.trans (g1.trans g2).s⟩, ht⟩
end
/-! ### dicts of one's own -/
def keyD : Key → PyData
  | .inl i => .int i
  | .inr x => .str x
def putG {κ β : Type} [DecidableEq κ] (kvs : List (κ × β)) (k : κ) (v : β) : List (κ × β) := if (kvs.any fun kv => decide (kv.1 = k)) = true then kvs.map (fun kv => if kv.1 = k then (kv.1, v) else kv) else kvs ++ [(k, v)]
def valG {κ β : Type} [DecidableEq κ] (kvs : List (κ × β)) (k : κ) : Option β := (kvs.find? fun kv => decide (kv.1 = k)).map (·.2)
def dropG {κ β : Type} [DecidableEq κ] (kvs : List (κ × β)) (k : κ) : List (κ × β) := kvs.filter fun kv => decide (kv.1 ≠ k)
section
variable {K : PySem.W.Frag} {S S1 H H1 : Hp} {ws : List (Key × V)} {kvs : List (Key × PyData)} {k : Key} {v : V} {d : PyData}
theorem KvD.len (h : KvD K S ws kvs) : ws.length = kvs.length := by
  induction h with
  | nil => rfl
  | cons _ _ ih => simp [ih]
theorem KvD.val (h : KvD K S ws kvs) : (∀ d, valG kvs k = some d → ∃ v, valV ws k = some v ∧ Dp K S v d) ∧ (valG kvs k = none → valV ws k = none) := by
  induction h with
  | nil => exact ⟨fun d z => (by cases z), fun _ => rfl⟩
  | @cons w x ws kvs hq _ ih =>
    obtain ⟨e, hd⟩ := hq
    unfold valG valV at *
    rw [List.find?_cons, List.find?_cons]
    by_cases hk : x.1 = k
    · have hk' : w.1 = k := by rw [e]; exact hk
      rw [decide_eq_true hk, decide_eq_true hk']
      refine ⟨fun d z => ⟨w.2, rfl, ?_⟩, fun z => by cases z⟩
      cases z
      exact hd
    · have hk' : ¬ w.1 = k := by rw [e]; exact hk
      rw [decide_eq_false hk, decide_eq_false hk']
      exact ih
theorem KvD.anyK (h : KvD K S ws kvs) : (ws.any fun kv => decide (kv.1 = k)) = kvs.any fun kv => decide (kv.1 = k) := by
  induction h with
  | nil => rfl
  | cons hq _ ih => rw [List.any_cons, List.any_cons, ih, hq.1]
theorem KvD.app {ws' : List (Key × V)} {kvs' : List (Key × PyData)} (h : KvD K S ws kvs) (h' : KvD K S ws' kvs') : KvD K S (ws ++ ws') (kvs ++ kvs') := by
  induction h with
  | nil => exact h'
  | cons hq _ ih => exact .cons hq ih
theorem KvD.over (h : KvD K S ws kvs) (hd : Dp K S v d) : KvD K S (ws.map fun kv => if kv.1 = k then (kv.1, v) else kv) (kvs.map fun kv => if kv.1 = k then (kv.1, d) else kv) := by
  induction h with
  | nil => exact .nil
  | @cons w x ws kvs hq _ ih =>
    refine .cons ?_ ih
    show (if w.1 = k then (w.1, v) else w).1 = (if x.1 = k then (x.1, d) else x).1 ∧ Dp K S (if w.1 = k then (w.1, v) else w).2 (if x.1 = k then (x.1, d) else x).2
    rw [hq.1]
    split
    · exact ⟨rfl, hd⟩
    · exact hq
theorem KvD.put (h : KvD K S ws kvs) (hd : Dp K S v d) : KvD K S (putK ws k v) (putG kvs k d) := by
  unfold putK putG
  rw [h.anyK]
  split
  · exact h.over hd
  · exact h.app (.cons ⟨rfl, hd⟩ .nil)
theorem KvD.drop (h : KvD K S ws kvs) : KvD K S (dropK ws k) (dropG kvs k) := by
  unfold dropK dropG
  induction h with
  | nil => exact .nil
  | @cons w x ws kvs hq _ ih =>
    rw [List.filter_cons, List.filter_cons, hq.1]
    split
    · exact .cons hq ih
    · exact ih
theorem KvD.get {j : Nat} {x : Key × PyData} (h : KvD K S ws kvs) (e : kvs[j]? = some x) : ∃ v, ws[j]? = some (x.1, v) ∧ Dp K S v x.2 := by
  induction h generalizing j with
  | nil => simp at e
  | @cons w y ws kvs hq _ ih =>
    cases j with
    | zero =>
      simp at e
      subst e
      exact ⟨w.2, by rw [← hq.1]; rfl, hq.2⟩
    | succ j => simpa using ih (by simpa using e)
theorem key_dp (h : Dp K S v (keyD k)) : v = kV k := by
  cases k with
  | inl i => cases h; rfl
  | inr x => cases h; rfl
theorem dp_key : Dp K S (kV k) (keyD k) := by
  cases k with
  | inl i => exact .int i
  | inr x => exact .str x
theorem KvD.keys (h : KvD K S ws kvs) : DpAll K S (ws.map fun kv => kV kv.1) (kvs.map fun kv => keyD kv.1) := by
  induction h with
  | nil => exact .nil
  | @cons w x ws kvs hq _ ih =>
    refine .cons ?_ ih
    show Dp K S (kV w.1) (keyD x.1)
    rw [hq.1]
    exact dp_key
end
section
variable {K : PySem.W.Frag} {l : List Sl} {i : Nat} {o : Addr} {kvs : List (Key × PyData)} {k : Key} {ty tx : TE} {d : PyData}
theorem ev_dget (h : l[i]? = some (.dct o kvs)) (hy : Ev K ty l (keyD k)) (e : valG kvs k = some d) : Ev K (tDGet (tVar i) ty) l d := fun H0 S H s en hs Q q => by
  obtain ⟨v, hv, rfl, h0, hS, ws, hw, hkv⟩ := en.ok i _ h
  refine ⟨_, hv, hy H0 S H s en hs _ fun y S1 H1 g1 d1 => ?_⟩
  obtain ⟨v, hv, hd⟩ := hkv.val.1 d e
  exact ⟨o, v, rfl, .inl ⟨ws, k, .inl (g1.all o _ hw), key_dp d1, hv.symm⟩, q v S1 H1 g1 (Dp_mono hd g1.s)⟩
theorem ev_dget2 {e : PyData} (h : l[i]? = some (.dct o kvs)) (hy : Ev K ty l (keyD k)) (hx : Ev K tx l e) : Ev K (tDGet2 (tVar i) ty tx) l ((valG kvs k).getD e) := fun H0 S H s en hs Q q => by
  obtain ⟨v, hv, rfl, h0, hS, ws, hw, hkv⟩ := en.ok i _ h
  refine ⟨_, hv, o, rfl, .inl ⟨ws, .inl hw⟩, hy H0 S H s en hs _ fun y S1 H1 g1 d1 => hx H0 S1 H1 s (en.grow g1) g1.f _ fun z S2 H2 g2 d2 => ?_⟩
  refine ⟨valV ws k, .inl ⟨ws, k, .inl ((g1.trans g2).all o _ hw), key_dp d1, rfl⟩, ?_⟩
  cases hq : valG kvs k with
  | none =>
    rw [hkv.val.2 hq]
    exact q z S2 H2 (g1.trans g2) (by rw [hq]; exact d2)
  | some x =>
    obtain ⟨v, hv, hd⟩ := hkv.val.1 x hq
    rw [hv]
    exact q v S2 H2 (g1.trans g2) (by rw [hq]; exact Dp_mono hd (g1.trans g2).s)
theorem val_some {ws : List (Key × V)} {S : Hp} (h : KvD K S ws kvs) : (valV ws k).isSome = (valG kvs k).isSome := by
  cases hq : valG kvs k with
  | none => rw [h.val.2 hq]; rfl
  | some x => obtain ⟨v, hv, _⟩ := h.val.1 x hq; rw [hv]; rfl
theorem ev_din (h : l[i]? = some (.dct o kvs)) (hy : Ev K ty l (keyD k)) : Ev K (tDIn ty (tVar i)) l (.bool (valG kvs k).isSome) := fun H0 S H s en hs Q q =>
  hy H0 S H s en hs _ fun y S1 H1 g1 d1 => by
    obtain ⟨v, hv, rfl, h0, hS, ws, hw, hkv⟩ := (en.grow g1).ok i _ h
    exact ⟨_, hv, o, _, rfl, .inl ⟨ws, k, .inl hw, key_dp d1, rfl⟩, q _ S1 H1 g1 (by rw [val_some hkv]; exact .bl _)⟩
theorem ev_dnotin (h : l[i]? = some (.dct o kvs)) (hy : Ev K ty l (keyD k)) : Ev K (tDNotIn ty (tVar i)) l (.bool (!(valG kvs k).isSome)) := fun H0 S H s en hs Q q =>
  hy H0 S H s en hs _ fun y S1 H1 g1 d1 => by
    obtain ⟨v, hv, rfl, h0, hS, ws, hw, hkv⟩ := (en.grow g1).ok i _ h
    exact ⟨_, hv, o, _, rfl, .inl ⟨ws, k, .inl hw, key_dp d1, rfl⟩, q _ S1 H1 g1 (by rw [val_some hkv]; exact .bl _)⟩
theorem et_truthD (h : l[i]? = some (.dct o kvs)) : EvT K (fun σ H Q => tVar i σ H fun x H' => ∃ k, TruV K x H' k ∧ Q k H') l (!kvs.isEmpty) := fun H0 S H s en hs Q q => by
  obtain ⟨v, hv, rfl, h0, hS, ws, hw, hkv⟩ := en.ok i _ h
  refine ⟨_, hv, !kvs.isEmpty, .inr (.inr ⟨ws, hw, ?_⟩), q S H (Grow.refl hs)⟩
  have := hkv.len
  cases ws <;> cases kvs <;> simp at this ⊢
theorem ev_listD (h : l[i]? = some (.dct o kvs)) : Ev K (tCB rListD (tCons (tVar i) tNil)) l (.list (kvs.map fun kv => keyD kv.1)) := fun H0 S H s en hs Q q => by
  obtain ⟨v, hv, rfl, h0, hS, ws, hw, hkv⟩ := en.ok i _ h
  exact ⟨_, hv, o, ws, rfl, hw, fun p hp => new_lst hs hkv.keys q p hp⟩
/-- a new dict, nobody's yet -/
def EvC (K : PySem.W.Frag) (te : TE) (l : List Sl) (kvs : List (Key × PyData)) : Prop := ∀ H0 S H s, Env K H0 S H s l → Same S H → ∀ Q : VK, (∀ p S' H' ws, Grow m0 S H S' H' → H p = none → S' p = none → H' p = some (.dK ws) → KvD K S' ws kvs → Q (.ref p) H') → te s H Q
theorem ec_new : EvC K tDNewK l [] := fun H0 S H s en hs Q q p hp => q p S _ [] (Grow.out hs hp) hp (hs.free hp) upd_same .nil
end
section
variable {C : Cn} {l : List Sl} {i : Nat} {o : Addr} {kvs : List (Key × PyData)} {k : Key} {te ty : TE} {d : PyData} {s : L2.St} {H : Hp} {D : Ends}
theorem At.dct {S S' H' : Hp} {p : Addr} {ws : List (Key × V)} (h : At C l s H) (g : Grow C.m C.S0 C.H0 S H) (e : Env C.K C.H0 S H s l) (b : Same C.Sb S) (g1 : Grow m0 S H S' H') (hp : H p = none) (sp : S' p = none) (hx : H' p = some (.dK ws)) (hd : KvD C.K S' ws kvs) :
    At C (l.set i (.dct p kvs)) (s.set i (some (.ref p))) H' := by
  have e' := e.grow g1
  have h0 : C.H0 p = none := by
    cases hq : C.H0 p with
    | none => rfl
    | some u => exact absurd hp (g.d p (some_ne hq))
  have hm : p ∉ muts l := fun z => (e.there z).1 hp
  exact ⟨⟨S', g.trans g1.any, e'.fresh rfl hm ⟨rfl, h0, sp, ws, hx, hd⟩, b.trans g1.s⟩, tw_set h.tw fun _ _ z => nomatch z⟩
theorem d_asgC (h : At C l s H) (he : EvC C.K te l kvs) (kk : ∀ p s' H', At C (l.set i (.dct p kvs)) s' H' → D.nx s' H') : tAsg te (gName i) D s H := by
  obtain ⟨S, g, e, b⟩ := h.ex
  exact he C.H0 S H s e g.f _ fun p S' H' ws g1 hp sp hx hd => kk p _ _ (h.dct g e b g1 hp sp hx hd)
theorem At.putC {kvs' : List (Key × PyData)} {S : Hp} {ws' : List (Key × V)} (tw : ∀ t n, Sl.town t n ∈ l → C.m t) (g : Grow C.m C.S0 C.H0 S H) (e : Env C.K C.H0 S H s l) (b : Same C.Sb S) (hi : l[i]? = some (.dct o kvs)) (hd : KvD C.K S ws' kvs') :
    At C (l.set i (.dct o kvs')) s (upd H o (.dK ws')) := by
  obtain ⟨v, hv, rfl, h0, hS, ws, hx, _⟩ := e.ok i _ hi
  have hk : ∀ c w, c ≠ o → H c = some w → upd H o (.dK ws') c = some w := fun c w hc hw => by rw [upd_ne hc]; exact hw
  refine ⟨⟨S, g.putNew h0 hS (some_ne hx), e.put hi rfl rfl (Same.refl S) (fun _ z _ => z) hk fun v ok => ?_, b⟩, tw_set tw fun _ _ z => nomatch z⟩
  obtain ⟨e1, e2, e3, _⟩ := ok
  exact ⟨e1, e2, e3, ws', upd_same, hd⟩
/-- d[k] = e -/
theorem d_dput (h : At C l s H) (hi : l[i]? = some (.dct o kvs)) (he : Ev C.K te l d) (hy : Ev C.K ty l (keyD k)) (hz : kvs.length < 100000) (kk : ∀ H', At C (l.set i (.dct o (putG kvs k d))) s H' → D.nx s H') : sDPut (tVar i) ty te D s H := by
  obtain ⟨S, g, e, b⟩ := h.ex
  refine he C.H0 S H s e g.f _ fun x S1 H1 g1 d1 => ?_
  obtain ⟨v, hv, rfl, h0, hS, ws, hw, hkv⟩ := (e.grow g1).ok i _ hi
  refine ⟨_, hv, hy C.H0 S1 H1 s (e.grow g1) g1.f _ fun y S2 H2 g2 d2 => ⟨o, _, rfl, .inl ⟨ws, k, g2.all o _ hw, key_dp d2, szt (by rw [hkv.len]; exact hz), rfl⟩, kk _ ?_⟩⟩
  exact At.putC h.tw (g.trans (g1.trans g2).any) (e.grow (g1.trans g2)) (b.trans (g1.trans g2).s) hi ((hkv.mono g2.s).put (Dp_mono d1 g2.s))
/-- d.pop(k), what it tells being left -/
theorem d_dpop (h : At C l s H) (hi : l[i]? = some (.dct o kvs)) (hy : Ev C.K ty l (keyD k)) (hk : (valG kvs k).isSome = true) (kk : ∀ H', At C (l.set i (.dct o (dropG kvs k))) s H' → D.nx s H') : tDrop (tDPop1 (tVar i) ty) D s H := by
  obtain ⟨S, g, e, b⟩ := h.ex
  obtain ⟨v, hv, rfl, h0, hS, ws, hw, hkv⟩ := e.ok i _ hi
  refine ⟨_, hv, o, rfl, .inl ⟨ws, .inl hw⟩, hy C.H0 S H s e g.f _ fun y S2 H2 g2 d2 => ?_⟩
  obtain ⟨x, hx⟩ := Option.isSome_iff_exists.mp hk
  obtain ⟨v, hv, _⟩ := hkv.val.1 x hx
  exact ⟨ws, k, v, g2.all o _ hw, key_dp d2, hv, kk _ (At.putC h.tw (g.trans g2.any) (e.grow g2) (b.trans g2.s) hi (hkv.mono g2.s).drop)⟩
end
/-! ### comprehensions of dicts, over dicts -/
theorem putG_new {κ β : Type} [DecidableEq κ] {kvs : List (κ × β)} {k : κ} {v : β} (h : ∀ kv ∈ kvs, kv.1 ≠ k) : putG kvs k v = kvs ++ [(k, v)] := by
  unfold putG
  rw [if_neg]
  intro z
  obtain ⟨x, hx, e⟩ := List.any_eq_true.mp z
  exact h x hx (of_decide_eq_true e)
section
variable {K : PySem.W.Frag} {l : List Sl} {te tk : TE}
/-- a comprehension whose walk is known at this one state -/
theorem ev_lcN1 {α : Type} {xs : List α} {h : α → PyData} {wi : TI} {g : TG} {tt : TT} {vs : List Nat} {q : α → Bool} {f : α → PyData} {lb : α → List Sl} (hg : GIn g vs)
    (hm : ∀ v s H (Q Q' : L2.St → Hp → Prop), (∀ s' H', Q s' H' → Q' s' H') → g v s H Q → g v s H Q')
    (hb : ∀ x ∈ xs, Bd K g (wipeL l vs) (h x) (lb x)) (ht : ∀ x ∈ xs, EvT K tt (lb x) (q x)) (he : ∀ x ∈ xs, q x = true → Ev K te (lb x) (f x)) (hz : xs.length ≤ 100000)
    {H0 S H : Hp} {s : L2.St} (hi : ∀ R : It → Hp → Prop, (∀ J S' H', Grow m0 S H S' H' → WalkD K J S' (xs.map h) → R J H') → wi s H R) (e : Env K H0 S H s l) (hs : Same S H) (Q : VK) (k : ∀ D S' H' vs, Grow m0 S H S' H' → H D = none → S' D = none → H' D = some (.lst vs) → DpAll K S' vs ((xs.filter q).map f) → Q (.ref D) H') : tLc wi g tt te vs s H Q := by
  refine hi _ fun J S1 H1 g1 w => ?_
  have hlen : (xs.map h).length = xs.length := List.length_map _
  intro D hD
  have hDH : H D = none := g1.all.free hD
  refine ⟨fun i m H2 => m = xs.length - i ∧ i ≤ xs.length ∧ ∃ S' acc, Grow m0 S1 H1 S' H2 ∧ S' D = none ∧ H2 D = some (.lst acc) ∧ DpAll K S' acc (((xs.take i).filter q).map f),
    ⟨xs.length, by simp, Nat.zero_le _, S1, [], Grow.out g1.f hD, g1.f.free hD, upd_same, .nil⟩, ?_⟩
  rintro i m H2 ⟨rfl, hi', S', acc, g2, sD, hD2, hacc⟩
  by_cases hlt : i < xs.length
  · refine .inr ⟨w.go i H2 (by omega) (g2.s.trans g2.f), fun H3 => i + 1 ≤ xs.length ∧ ∃ S' acc, Grow m0 S1 H1 S' H3 ∧ S' D = none ∧ H3 D = some (.lst acc) ∧ DpAll K S' acc (((xs.take (i + 1)).filter q).map f), fun H3 ⟨a, b⟩ => ⟨xs.length - (i + 1), by omega, rfl, a, b⟩, fun x H3 y => ?_⟩
    have hd0 : xs[i]? = some xs[i] := List.getElem?_eq_getElem hlt
    have hd : (xs.map h)[i]? = some (h xs[i]) := by rw [List.getElem?_map, hd0]; rfl
    have hmem : xs[i] ∈ xs := List.getElem_mem hlt
    obtain ⟨S3, g3, d3⟩ := w.yld i H2 x H3 (h xs[i]) S' hd g2.s g2.f y
    have sD3 : S3 D = none := g3.n D sD (some_ne hD2)
    have hD3 : H3 D = some (.lst acc) := g3.all D _ hD2
    have g13 : Grow m0 S H S3 H3 := (g1.trans g2).trans g3
    have e3 : Env K H0 S3 H3 (wipe s vs) (wipeL l vs) := Env.wipe (e.grow g13) vs
    have bnd := hb xs[i] hmem H0 S3 H3 (wipe s vs) x (fun s' H' => H' = H3 ∧ Env K H0 S3 H3 s' (lb xs[i])) e3 g3.f d3 fun s' e' => ⟨rfl, e'⟩
    refine hm _ _ _ _ _ ?_ (hg x (wipe s vs) H3 _ bnd)
    rintro s2 H4 ⟨hw, rfl, e4⟩
    have hw' : wipe s2 vs = wipe s vs := by
      rw [hw]
      apply List.ext_getElem?
      intro j
      rw [wipe_get, wipe_get, wipe_length]
      by_cases hj : j ∈ vs
      · rw [if_pos hj, if_pos hj]
      · rw [if_neg hj, if_neg hj]
    refine ⟨hw', ?_⟩
    refine ht xs[i] hmem H0 S3 H4 s2 e4 g3.f _ fun S5 H5 g5 => ?_
    have sD5 : S5 D = none := g5.n D sD3 (some_ne hD3)
    have hD5 : H5 D = some (.lst acc) := g5.all D _ hD3
    cases hq : q xs[i] with
    | false =>
      rw [if_neg Bool.false_ne_true]
      refine ⟨hlt, S5, acc, (g2.trans g3).trans g5, sD5, hD5, ?_⟩
      rw [filter_take_succ hd0, hq]
      simp only [Bool.false_eq_true, if_false, List.append_nil]
      exact DpAll_mono hacc (g3.s.trans g5.s)
    | true =>
      rw [if_pos rfl]
      refine he xs[i] hmem hq H0 S5 H5 s2 (e4.grow g5) g5.f _ fun y2 S6 H6 g6 d6 => ?_
      have sD6 : S6 D = none := g6.n D sD5 (some_ne hD5)
      have hD6 : H6 D = some (.lst acc) := g6.all D _ hD5
      have gg : Grow m0 S1 H1 S6 H6 := ((g2.trans g3).trans g5).trans g6
      have hl := DpAll_len hacc
      have hlf : (((xs.take i).filter q).map f).length ≤ i := by
        rw [List.length_map]
        exact Nat.le_trans (List.length_filter_le _ _) (by rw [List.length_take]; omega)
      refine ⟨acc, hD6, szt (by omega), hlt, S6, acc ++ [y2], gg.putNew hD sD6 (some_ne hD6), sD6, upd_same, ?_⟩
      rw [filter_take_succ hd0, hq]
      simp only [if_true, List.map_append, List.map_cons, List.map_nil]
      exact DpAll_app (DpAll_mono hacc ((g3.s.trans g5.s).trans g6.s)) (.cons d6 .nil)
  · have ei : i = xs.length := by omega
    subst ei
    refine .inl ⟨by rw [← hlen]; exact w.stop H2 (g2.s.trans g2.f), k D S' H2 acc (g1.trans g2) hDH sD hD2 ?_⟩
    rw [List.take_length] at hacc
    exact hacc
/-- a dict comprehension, its keys being unlike -/
theorem ec_dc {α : Type} {xs : List α} {h : α → PyData} {wi : TI} {g : TG} {tt : TT} {vs : List Nat} {q : α → Bool} {kf : α → Key} {f : α → PyData} {lb : α → List Sl} (hi : EvI K wi l (xs.map h)) (hg : GIn g vs)
    (hm : ∀ v s H (Q Q' : L2.St → Hp → Prop), (∀ s' H', Q s' H' → Q' s' H') → g v s H Q → g v s H Q')
    (hb : ∀ x ∈ xs, Bd K g (wipeL l vs) (h x) (lb x)) (ht : ∀ x ∈ xs, EvT K tt (lb x) (q x)) (hkk : ∀ x ∈ xs, q x = true → Ev K tk (lb x) (keyD (kf x))) (he : ∀ x ∈ xs, q x = true → Ev K te (lb x) (f x)) (hnd : ((xs.filter q).map kf).Nodup) (hz : xs.length ≤ 100000) : EvC K (tDc wi g tt tk te vs) l ((xs.filter q).map fun x => (kf x, f x)) := fun H0 S H s e hs Q k => by
  refine hi H0 S H s e hs _ fun J S1 H1 g1 w => ?_
  have hlen : (xs.map h).length = xs.length := List.length_map _
  intro D hD
  have hDH : H D = none := g1.all.free hD
  refine ⟨fun i m H2 => m = xs.length - i ∧ i ≤ xs.length ∧ ∃ S' acc, Grow m0 S1 H1 S' H2 ∧ S' D = none ∧ H2 D = some (.dK acc) ∧ KvD K S' acc (((xs.take i).filter q).map fun x => (kf x, f x)),
    ⟨xs.length, by simp, Nat.zero_le _, S1, [], Grow.out g1.f hD, g1.f.free hD, upd_same, .nil⟩, ?_⟩
  rintro i m H2 ⟨rfl, hi', S', acc, g2, sD, hD2, hacc⟩
  by_cases hlt : i < xs.length
  · refine .inr ⟨w.go i H2 (by omega) (g2.s.trans g2.f), fun H3 => i + 1 ≤ xs.length ∧ ∃ S' acc, Grow m0 S1 H1 S' H3 ∧ S' D = none ∧ H3 D = some (.dK acc) ∧ KvD K S' acc (((xs.take (i + 1)).filter q).map fun x => (kf x, f x)), fun H3 ⟨a, b⟩ => ⟨xs.length - (i + 1), by omega, rfl, a, b⟩, fun x H3 y => ?_⟩
    have hd0 : xs[i]? = some xs[i] := List.getElem?_eq_getElem hlt
    have hd : (xs.map h)[i]? = some (h xs[i]) := by rw [List.getElem?_map, hd0]; rfl
    have hmem : xs[i] ∈ xs := List.getElem_mem hlt
    obtain ⟨S3, g3, d3⟩ := w.yld i H2 x H3 (h xs[i]) S' hd g2.s g2.f y
    have sD3 : S3 D = none := g3.n D sD (some_ne hD2)
    have hD3 : H3 D = some (.dK acc) := g3.all D _ hD2
    have g13 : Grow m0 S H S3 H3 := (g1.trans g2).trans g3
    have e3 : Env K H0 S3 H3 (wipe s vs) (wipeL l vs) := Env.wipe (e.grow g13) vs
    have bnd := hb xs[i] hmem H0 S3 H3 (wipe s vs) x (fun s' H' => H' = H3 ∧ Env K H0 S3 H3 s' (lb xs[i])) e3 g3.f d3 fun s' e' => ⟨rfl, e'⟩
    refine hm _ _ _ _ _ ?_ (hg x (wipe s vs) H3 _ bnd)
    rintro s2 H4 ⟨hw, rfl, e4⟩
    have hw' : wipe s2 vs = wipe s vs := by
      rw [hw]
      apply List.ext_getElem?
      intro j
      rw [wipe_get, wipe_get, wipe_length]
      by_cases hj : j ∈ vs
      · rw [if_pos hj, if_pos hj]
      · rw [if_neg hj, if_neg hj]
    refine ⟨hw', ?_⟩
    refine ht xs[i] hmem H0 S3 H4 s2 e4 g3.f _ fun S5 H5 g5 => ?_
    have sD5 : S5 D = none := g5.n D sD3 (some_ne hD3)
    have hD5 : H5 D = some (.dK acc) := g5.all D _ hD3
    cases hq : q xs[i] with
    | false =>
      rw [if_neg Bool.false_ne_true]
      refine ⟨hlt, S5, acc, (g2.trans g3).trans g5, sD5, hD5, ?_⟩
      rw [filter_take_succ hd0, hq]
      simp only [Bool.false_eq_true, if_false, List.append_nil]
      exact hacc.mono (g3.s.trans g5.s)
    | true =>
      rw [if_pos rfl]
      refine hkk xs[i] hmem hq H0 S5 H5 s2 (e4.grow g5) g5.f _ fun yk S55 H55 g55 d55 => ?_
      refine he xs[i] hmem hq H0 S55 H55 s2 ((e4.grow g5).grow g55) g55.f _ fun y2 S6 H6 g6 d6 => ?_
      have sD55 : S55 D = none := g55.n D sD5 (some_ne hD5)
      have hD55 : H55 D = some (.dK acc) := g55.all D _ hD5
      have sD6 : S6 D = none := g6.n D sD55 (some_ne hD55)
      have hD6 : H6 D = some (.dK acc) := g6.all D _ hD55
      have gg : Grow m0 S1 H1 S6 H6 := (((g2.trans g3).trans g5).trans g55).trans g6
      have hl := hacc.len
      have hlf : (((xs.take i).filter q).map fun x => (kf x, f x)).length ≤ i := by
        rw [List.length_map]
        exact Nat.le_trans (List.length_filter_le _ _) (by rw [List.length_take]; omega)
      refine ⟨acc, kf xs[i], key_dp d55, hD6, szt (by omega), hlt, S6, _, gg.putNew hD sD6 (some_ne hD6), sD6, upd_same, ?_⟩
      have hput := (hacc.mono (((g3.s.trans g5.s).trans g55.s).trans g6.s)).put (k := kf xs[i]) d6
      have hfresh : ∀ kv ∈ (((xs.take i).filter q).map fun x => (kf x, f x)), kv.1 ≠ kf xs[i] := fun kv hkv z => by
        obtain ⟨x0, hx0, rfl⟩ := List.mem_map.mp hkv
        have hs2 : (xs.take (i + 1)).filter q = (xs.take i).filter q ++ [xs[i]] := by rw [filter_take_succ hd0, hq]; rfl
        have hsub : (((xs.take (i + 1)).filter q).map kf).Nodup := (((List.take_sublist (i + 1) xs).filter q).map kf).nodup hnd
        rw [hs2, List.map_append, List.nodup_append] at hsub
        exact hsub.2.2 (kf x0) (List.mem_map.mpr ⟨x0, hx0, rfl⟩) (kf xs[i]) (by simp) z
      rw [putG_new hfresh] at hput
      rw [filter_take_succ hd0, hq]
      simp only [if_true, List.map_append, List.map_cons, List.map_nil]
      exact hput
  · have ei : i = xs.length := by omega
    subst ei
    refine .inl ⟨by rw [← hlen]; exact w.stop H2 (g2.s.trans g2.f), k D S' H2 acc (g1.trans g2) hDH sD hD2 ?_⟩
    rw [List.take_length] at hacc
    exact hacc
end
/-! ### a dict gone over: it is frozen for that time -/
def del (S : Hp) (o : Addr) : Hp := fun a => if a = o then none else S a
theorem del_same {S : Hp} {o : Addr} : del S o o = none := by unfold del; rw [if_pos rfl]
theorem del_ne {S : Hp} {o a : Addr} (h : a ≠ o) : del S o a = S a := by unfold del; rw [if_neg h]
section
variable {K : PySem.W.Frag} {S : Hp} {o : Addr} {od : Obj} {ws : List (Key × V)}
theorem sql_del (h : S o = some (.frz od (.dK ws))) {a : Addr} {xs : List V} (q : SqL K S a xs) : SqL K (del S o) a xs := by
  rcases q with (q | ⟨o', q⟩) | q
  · refine .inl (.inl ?_)
    rw [del_ne (fun z => by rw [z, h] at q; cases q)]
    exact q
  · refine .inl (.inr ⟨o', ?_⟩)
    rw [del_ne (fun z => by rw [z, h] at q; cases q)]
    exact q
  · exact .inr q
theorem sqt_del (h : S o = some (.frz od (.dK ws))) {a : Addr} {xs : List V} (q : SqT K S a xs) : SqT K (del S o) a xs := by
  rcases q with (q | ⟨o', q⟩) | q
  · refine .inl (.inl ?_)
    rw [del_ne (fun z => by rw [z, h] at q; cases q)]
    exact q
  · refine .inl (.inr ⟨o', ?_⟩)
    rw [del_ne (fun z => by rw [z, h] at q; cases q)]
    exact q
  · exact .inr q
mutual
theorem dp_del (h : S o = some (.frz od (.dK ws))) : ∀ (d : PyData) (v : V), Dp K S v d → Dp K (del S o) v d
  | .none, _, q => by cases q; exact .non
  | .bool b, _, q => by cases q; exact .bl b
  | .int i, _, q => by cases q; exact .int i
  | .str x, _, q => by cases q; exact .str x
  | .list ds, _, q => by
    cases q with
    | lst hs ha => exact .lst (sql_del h hs) (dpAll_del h ds _ ha)
  | .tuple ds, _, q => by
    cases q with
    | tup hs ha => exact .tup (sqt_del h hs) (dpAll_del h ds _ ha)
  | .dict _, _, q => by cases q
theorem dpAll_del (h : S o = some (.frz od (.dK ws))) : ∀ (ds : List PyData) (vs : List V), DpAll K S vs ds → DpAll K (del S o) vs ds
  | [], _, q => by cases q; exact .nil
  | d :: ds, _, q => by
    cases q with
    | cons h1 h2 => exact .cons (dp_del h d _ h1) (dpAll_del h ds _ h2)
end
theorem kv_del (h : S o = some (.frz od (.dK ws))) {us : List (Key × V)} {kvs : List (Key × PyData)} (q : KvD K S us kvs) : KvD K (del S o) us kvs := Paired.mapP q fun _ _ z => ⟨z.1, dp_del h _ _ z.2⟩
theorem walkItems {kvs : List (Key × PyData)} (h : S o = some (.frz od (.dK ws))) (hkv : KvD K S ws kvs) : WalkD K (Iti o od ws) S (kvs.map fun kv => .tuple [keyD kv.1, kv.2]) := by
  have hl := hkv.len
  refine ⟨fun i H hi hs => ⟨hs _ _ h, by rw [List.length_map] at hi; omega⟩, fun H hs => ⟨hs _ _ h, by rw [List.length_map]; omega⟩, fun i H x H' d S2 e s1 s2 y => ?_⟩
  obtain ⟨T, k, v, hv, rfl, hT, rfl⟩ := y
  rw [List.getElem?_map] at e
  cases hq : kvs[i]? with
  | none => rw [hq] at e; cases e
  | some kv =>
    rw [hq] at e
    cases e
    obtain ⟨v', hv', hd⟩ := hkv.get hq
    rw [hv] at hv'
    cases hv'
    exact dp_pair s2 hT rfl dp_key (Dp_mono hd s1)
end
theorem slok_del {K : PySem.W.Frag} {H0 S H : Hp} {o : Addr} {od : Obj} {ws : List (Key × V)} {z : Sl} {w : Option V} {H' : Hp} (h : S o = some (.frz od (.dK ws))) (na : ∀ a, z.adr = some a → a ≠ o) (hk : ∀ a u, a ≠ o → H a = some u → H' a = some u) (q : SlOk K H0 S H z w) : SlOk K H0 (del S o) H' z w := by
  cases z with
  | no => trivial
  | dat d => obtain ⟨w', e1, e2⟩ := q; exact ⟨w', e1, dp_del h _ _ e2⟩
  | own o2 es => obtain ⟨e1, e2, e3, ys, e4, e5⟩ := q; exact ⟨e1, e2, by rw [del_ne (na _ rfl)]; exact e3, ys, hk _ _ (na _ rfl) e4, dpAll_del h _ _ e5⟩
  | val w' => exact q
  | town t n => obtain ⟨e1, e2, ns, e3, e4⟩ := q; exact ⟨e1, by rw [del_ne (na _ rfl)]; exact e2, ns, hk _ _ (na _ rfl) e3, e4⟩
  | dct o2 es => obtain ⟨e1, e2, e3, ys, e4, e5⟩ := q; exact ⟨e1, e2, by rw [del_ne (na _ rfl)]; exact e3, ys, hk _ _ (na _ rfl) e4, kv_del h e5⟩
theorem slok_frz {K : PySem.W.Frag} {H0 S H : Hp} {o : Addr} {u : HO} {z : Sl} {w : Option V} {H' : Hp} (hS : S o = none) (na : ∀ a, z.adr = some a → a ≠ o) (hk : ∀ a u, a ≠ o → H a = some u → H' a = some u) (q : SlOk K H0 S H z w) : SlOk K H0 (upd S o u) H' z w := by
  have hm : Same S (upd S o u) := same_up hS
  cases z with
  | no => trivial
  | dat d => obtain ⟨w', e1, e2⟩ := q; exact ⟨w', e1, Dp_mono e2 hm⟩
  | own o2 es => obtain ⟨e1, e2, e3, ys, e4, e5⟩ := q; exact ⟨e1, e2, by rw [upd_ne (na _ rfl)]; exact e3, ys, hk _ _ (na _ rfl) e4, DpAll_mono e5 hm⟩
  | val w' => exact q
  | town t n => obtain ⟨e1, e2, ns, e3, e4⟩ := q; exact ⟨e1, by rw [upd_ne (na _ rfl)]; exact e2, ns, hk _ _ (na _ rfl) e3, e4⟩
  | dct o2 es => obtain ⟨e1, e2, e3, ys, e4, e5⟩ := q; exact ⟨e1, e2, by rw [upd_ne (na _ rfl)]; exact e3, ys, hk _ _ (na _ rfl) e4, e5.mono hm⟩
section
variable {C : Cn} {l : List Sl} {i j : Nat} {o : Addr} {kvs : List (Key × PyData)} {te : TE} {s : L2.St} {H : Hp} {D : Ends}
/-- x = [e for k, v in d.items() if c] -/
theorem d_lockLc {g : TG} {tt : TT} {vs : List Nat} {q : Key × PyData → Bool} {f : Key × PyData → PyData} {lb : Key × PyData → List Sl} (h : At C l s H) (hi : l[i]? = some (.dct o kvs)) (hij : i ≠ j) (hg : GIn g vs)
    (hm : ∀ v s H (Q Q' : L2.St → Hp → Prop), (∀ s' H', Q s' H' → Q' s' H') → g v s H Q → g v s H Q')
    (hb : ∀ x ∈ kvs, Bd C.K g (wipeL (l.set i (.val (.ref o))) vs) (.tuple [keyD x.1, x.2]) (lb x)) (ht : ∀ x ∈ kvs, EvT C.K tt (lb x) (q x)) (he : ∀ x ∈ kvs, q x = true → Ev C.K te (lb x) (f x)) (hz : kvs.length ≤ 100000)
    (kk : ∀ s' H', At C (l.set j (.dat (.list ((kvs.filter q).map f)))) s' H' → D.nx s' H') : tLock (tAsg (tLc (iItems (tVar i)) g tt te vs) (gName j)) D s H := by
  obtain ⟨S, g0, e, b⟩ := h.ex
  obtain ⟨v, hv, rfl, h0, hS, ws, hw, hkv⟩ := e.ok i _ hi
  have hil : i < l.length := (List.getElem?_eq_some_iff.mp hi).1
  have na : ∀ (jj : Nat) (z : Sl), i ≠ jj → l[jj]? = some z → ∀ a, z.adr = some a → a ≠ o := fun jj z hn ez a ha z' => by
    subst z'
    exact hn (nodup_eq (ys := []) e.nd hi ez rfl ha)
  refine ⟨o, .dK ws, hw, trivial, fun od => ?_⟩
  have hs1 : Same (upd S o (.frz od (.dK ws))) (upd H o (.frz od (.dK ws))) := same_upup g0.f
  have hSS : Same S (upd S o (.frz od (.dK ws))) := same_up hS
  have e1 : Env C.K C.H0 (upd S o (.frz od (.dK ws))) (upd H o (.frz od (.dK ws))) s (l.set i (.val (.ref o))) := by
    refine ⟨by rw [List.length_set]; exact e.len, fun jj z ej => ?_, (muts_set_sub l i _ rfl).nodup e.nd⟩
    by_cases hn : i = jj
    · subst hn
      rw [List.getElem?_set_self hil] at ej
      cases ej
      exact ⟨_, hv, rfl⟩
    · rw [List.getElem?_set_ne hn] at ej
      obtain ⟨w, hw', ok⟩ := e.ok jj z ej
      exact ⟨w, hw', slok_frz hS (na jj z hn ej) (fun a u ha hu => by rw [upd_ne ha]; exact hu) ok⟩
  refine ev_lcN1 (l := l.set i (.val (.ref o))) (xs := kvs) (h := fun kv => .tuple [keyD kv.1, kv.2]) hg hm hb ht he hz (fun R hR => ⟨_, hv, o, od, ws, rfl, upd_same, hR _ _ _ (Grow.refl hs1) (walkItems upd_same (hkv.mono hSS))⟩) e1 hs1 _ fun p S2 H2 ys g2 hp sp hx hd => ?_
  have ho2 : H2 o = some (.frz od (.dK ws)) := g2.all o _ upd_same
  have so2 : S2 o = some (.frz od (.dK ws)) := g2.s o _ upd_same
  refine ⟨ho2, kk _ _ ?_⟩
  have hpo : p ≠ o := fun z => by rw [z, upd_same] at hp; cases hp
  have gt := g2.take hp hx sp
  generalize hS3 : upd S2 p (.lst ys) = S3 at gt
  have so3 : S3 o = some (.frz od (.dK ws)) := by rw [← hS3, upd_ne (Ne.symm hpo)]; exact so2
  have hSo : ∀ a, a ≠ o → ∀ u, S a = some u → S3 a = some u := fun a ha u hu => gt.s a u (by rw [upd_ne ha]; exact hu)
  have hHo : ∀ a u, a ≠ o → H a = some u → H2 a = some u := fun a u ha hu => gt.all a u (by rw [upd_ne ha]; exact hu)
  have hd3 : Dp C.K S3 (.ref p) (.list ((kvs.filter q).map f)) := by
    rw [← hS3]
    exact .lst (.inl (.inl upd_same)) (DpAll_mono hd (same_up sp))
  have sub : ∀ {T : Hp}, Same T S → Same T (del S3 o) := fun {T} hT a u hu => by
    have ha : a ≠ o := fun z => by
      have := hT a u hu
      rw [z, hS] at this
      cases this
    rw [del_ne ha]
    exact hSo a ha u (hT a u hu)
  refine ⟨⟨del S3 o, ⟨sub g0.s, fun a u hu => ?_, fun a ha hn => ?_, fun a u hm' hu => ?_, fun a ha => ?_⟩, ⟨by rw [List.length_set, List.length_set]; exact e.len, fun jj z ej => ?_, (muts_set_sub l j _ rfl).nodup e.nd⟩, sub b⟩, tw_set h.tw fun _ _ z => nomatch z⟩
  · have ha : a ≠ o := fun z => by rw [z, del_same] at hu; cases hu
    rw [del_ne ha] at hu
    rw [upd_ne ha]
    exact gt.f a u hu
  · by_cases hao : a = o
    · rw [hao, del_same]
    · rw [del_ne hao]
      refine gt.n a ?_ ?_
      · rw [upd_ne hao]
        exact g0.n a ha hn
      · rw [upd_ne hao]
        exact g0.d a hn
  · have ha : a ≠ o := fun z => by rw [z, h0] at hu; cases hu
    rw [upd_ne ha]
    exact hHo a u ha (g0.k a u hm' hu)
  · have hao : a ≠ o := fun z => by rw [z] at ha; exact ha h0
    rw [upd_ne hao]
    obtain ⟨u, hu⟩ := ne_some (g0.d a ha)
    exact some_ne (hHo a u hao hu)
  · by_cases hj : j = jj
    · subst hj
      have hjl : j < l.length := by
        have := (List.getElem?_eq_some_iff.mp ej).1
        rwa [List.length_set] at this
      rw [List.getElem?_set_self hjl] at ej
      cases ej
      exact ⟨_, List.getElem?_set_self (by rw [e.len]; exact hjl), .ref p, rfl, dp_del so3 _ _ hd3⟩
    · rw [List.getElem?_set_ne hj] at ej ⊢
      by_cases hn : i = jj
      · subst hn
        rw [hi] at ej
        cases ej
        refine ⟨_, hv, rfl, h0, del_same, ws, upd_same, ?_⟩
        exact kv_del so3 ((hkv.mono hSS).mono gt.s)
      · have e2 : Env C.K C.H0 S3 H2 s (l.set i (.val (.ref o))) := e1.grow gt
        obtain ⟨w, hw', ok⟩ := e2.ok jj z (by rw [List.getElem?_set_ne hn]; exact ej)
        exact ⟨w, hw', slok_del so3 (na jj z hn ej) (fun a u ha hu => by rw [upd_ne ha]; exact hu) ok⟩
end
theorem un1 {k : Nat} {A : Around} (r : Room k A) : A.units + 1 < cLine := by have := r.un; omega
end Dz

/-! Sm: what a def computes, as a plain function over slots and a store; and that the rules of the hand layer come to it. -/
namespace Sm
open PySem L2 RZ Dz

/-! ### plain states -/
inductive Vl where
  | no
  | dat (d : PyData)
  | own (ds : List PyData)
  | dct (kvs : List (Key × PyData))
  | ref (j : Nat)
inductive Ob where
  | lst (ds : List PyData)
  | dct (kvs : List (Key × PyData))
abbrev Lo := List Vl
abbrev Sg := List Ob
abbrev M (α : Type) := Lo → Sg → Option (α × Lo × Sg)
def mb {α β : Type} (m : M α) (f : α → M β) : M β := fun l g => match m l g with
  | none => none
  | some (a, l', g') => f a l' g'
def mp {α : Type} (a : α) : M α := fun l g => some (a, l, g)
def mo {α : Type} (o : Option α) : M α := fun l g => match o with
  | none => none
  | some a => some (a, l, g)
theorem mb_some {α β : Type} {m : M α} {f : α → M β} {l l' : Lo} {g g' : Sg} {b : β} (h : mb m f l g = some (b, l', g')) : ∃ a l1 g1, m l g = some (a, l1, g1) ∧ f a l1 g1 = some (b, l', g') := by
  unfold mb at h
  split at h
  · cases h
  · rename_i a l1 g1 e
    exact ⟨a, l1, g1, e, h⟩
theorem mo_some {α : Type} {o : Option α} {l l' : Lo} {g g' : Sg} {b : α} (h : mo o l g = some (b, l', g')) : o = some b ∧ l' = l ∧ g' = g := by
  unfold mo at h
  split at h
  · cases h
  · cases h
    exact ⟨rfl, rfl, rfl⟩
theorem mp_some {α : Type} {a : α} {l l' : Lo} {g g' : Sg} {b : α} (h : mp a l g = some (b, l', g')) : b = a ∧ l' = l ∧ g' = g := by
  unfold mp at h
  cases h
  exact ⟨rfl, rfl, rfl⟩

/-! ### what stands in the machine -/
def ObOk (K : PySem.W.Frag) (S H : Hp) (a : Addr) : Ob → Prop
  | .lst ds => ∃ xs, H a = some (.lst xs) ∧ DpAll K S xs ds
  | .dct kvs => ∃ ws, H a = some (.dK ws) ∧ KvD K S ws kvs
def SOk (K : PySem.W.Frag) (S H : Hp) (r : List Addr) : Vl → Option Addr → Option V → Prop
  | .no, o, _ => o = none
  | .dat d, o, x => o = none ∧ ∃ v, x = some v ∧ Dp K S v d
  | .own ds, o, x => ∃ a, o = some a ∧ x = some (.ref a) ∧ S a = none ∧ ∃ xs, H a = some (.lst xs) ∧ DpAll K S xs ds
  | .dct kvs, o, x => ∃ a, o = some a ∧ x = some (.ref a) ∧ S a = none ∧ ∃ ws, H a = some (.dK ws) ∧ KvD K S ws kvs
  | .ref j, o, x => o = none ∧ ∃ a, r[j]? = some a ∧ x = some (.ref a)
structure StOk (K : PySem.W.Frag) (l : Lo) (g : Sg) (s : L2.St) (H S : Hp) (r : List Addr) (A : List (Option Addr)) : Prop where
  hs : Same S H
  la : A.length = l.length
  ls : s.length = l.length
  ok : ∀ (i : Nat) (x : Vl), l[i]? = some x → ∃ o v, A[i]? = some o ∧ s[i]? = some v ∧ SOk K S H r x o v
  ij : ∀ (i j : Nat) (a : Addr), A[i]? = some (some a) → A[j]? = some (some a) → i = j
  dr : ∀ a, some a ∈ A → a ∉ r
  rn : r.Nodup
  lg : r.length = g.length
  st : ∀ (j : Nat) (a : Addr) (o : Ob), r[j]? = some a → g[j]? = some o → S a = none ∧ ObOk K S H a o
def tr (A : List (Option Addr)) (r : List Addr) : Addr → Prop := fun a => some a ∈ A ∨ a ∈ r
/-- from one state to a later one -/
structure Mv (S H : Hp) (r : List Addr) (A : List (Option Addr)) (S' H' : Hp) (r' : List Addr) (A' : List (Option Addr)) : Prop where
  s : Same S S'
  h : Same S' H'
  n : ∀ a, S a = none → H a ≠ none → ¬ tr A r a → S' a = none
  k : ∀ a o, ¬ tr A r a → H a = some o → H' a = some o
  d : ∀ a, H a ≠ none → H' a ≠ none
  p : ∃ q, r' = r ++ q
  f : ∀ a, tr A' r' a → tr A r a ∨ H a = none
theorem nodup_inj {α : Type} {xs : List α} (h : xs.Nodup) {i j : Nat} {a : α} (h1 : xs[i]? = some a) (h2 : xs[j]? = some a) : i = j := by
  obtain ⟨l1, e1⟩ := List.getElem?_eq_some_iff.mp h1
  obtain ⟨l2, e2⟩ := List.getElem?_eq_some_iff.mp h2
  rcases Nat.lt_trichotomy i j with q | q | q
  · exact absurd (e1.trans e2.symm) (List.pairwise_iff_getElem.mp h i j l1 l2 q)
  · exact q
  · exact absurd (e2.trans e1.symm) (List.pairwise_iff_getElem.mp h j i l2 l1 q)
section
variable {K : PySem.W.Frag} {l l' : Lo} {g g' : Sg} {s : L2.St} {H S H1 S1 H2 S2 : Hp} {r r1 r2 : List Addr} {A A1 A2 : List (Option Addr)} {x : Vl} {o : Option Addr} {v : Option V}
theorem Mv.refl (h : Same S H) : Mv S H r A S H r A := ⟨Same.refl S, h, fun _ e _ _ => e, fun _ _ _ e => e, fun _ e => e, ⟨[], by simp⟩, fun _ h => .inl h⟩
theorem Mv.trans (a : Mv S H r A S1 H1 r1 A1) (b : Mv S1 H1 r1 A1 S2 H2 r2 A2) : Mv S H r A S2 H2 r2 A2 := by
  obtain ⟨q1, e1⟩ := a.p
  obtain ⟨q2, e2⟩ := b.p
  have nn : ∀ x, H1 x = none → H x = none := fun x h => by
    cases q : H x with
    | none => rfl
    | some u => exact absurd h (a.d x (some_ne q))
  refine ⟨a.s.trans b.s, b.h, fun x e q hm => b.n x (a.n x e q hm) (a.d x q) (fun z => (a.f x z).elim hm q), fun x u hm e => ?_, fun x e => b.d x (a.d x e), ⟨q1 ++ q2, by rw [e2, e1, List.append_assoc]⟩, fun x h => ?_⟩
  · refine b.k x u (fun z => ?_) (a.k x u hm e)
    rcases a.f x z with q | q
    · exact hm q
    · rw [q] at e; cases e
  · rcases b.f x h with q | q
    · exact a.f x q
    · exact .inr (nn x q)
/-- what grows without a write -/
theorem Mv.grow (q : Grow m0 S H S1 H1) : Mv S H r A S1 H1 r A := ⟨q.s, q.f, fun a e1 e2 _ => q.n a e1 e2, fun a o _ e => q.all a o e, q.d, ⟨[], by simp⟩, fun _ h => .inl h⟩
theorem SOk.go (h : SOk K S H r x o v) (hs : Same S S1) (hk : ∀ a, o = some a → S1 a = none ∧ ∀ u, H a = some u → H1 a = some u) (hr : ∃ q, r1 = r ++ q) : SOk K S1 H1 r1 x o v := by
  cases x with
  | no => exact h
  | dat d => obtain ⟨e, w, e2, q⟩ := h; exact ⟨e, w, e2, Dp_mono q hs⟩
  | own ds => obtain ⟨a, e1, e2, e3, xs, e4, e5⟩ := h; exact ⟨a, e1, e2, (hk a e1).1, xs, (hk a e1).2 _ e4, DpAll_mono e5 hs⟩
  | dct ds => obtain ⟨a, e1, e2, e3, xs, e4, e5⟩ := h; exact ⟨a, e1, e2, (hk a e1).1, xs, (hk a e1).2 _ e4, e5.mono hs⟩
  | ref j =>
    obtain ⟨e, a, e2, e3⟩ := h
    obtain ⟨q, rfl⟩ := hr
    exact ⟨e, a, by rw [List.getElem?_append_left (List.getElem?_eq_some_iff.mp e2).1]; exact e2, e3⟩
theorem ObOk.go {a : Addr} {u : Ob} (h : ObOk K S H a u) (hs : Same S S1) (hk : ∀ z, H a = some z → H1 a = some z) : ObOk K S1 H1 a u := by
  cases u with
  | lst ds => obtain ⟨xs, e1, e2⟩ := h; exact ⟨xs, hk _ e1, DpAll_mono e2 hs⟩
  | dct ds => obtain ⟨xs, e1, e2⟩ := h; exact ⟨xs, hk _ e1, e2.mono hs⟩
theorem ObOk.there {a : Addr} {u : Ob} (h : ObOk K S H a u) : H a ≠ none := by
  cases u with
  | lst ds => obtain ⟨xs, e1, e2⟩ := h; exact some_ne e1
  | dct ds => obtain ⟨xs, e1, e2⟩ := h; exact some_ne e1
theorem SOk.there {a : Addr} (h : SOk K S H r x (some a) v) : H a ≠ none ∧ S a = none := by
  cases x with
  | no => cases h
  | dat d => cases h.1
  | own ds => obtain ⟨a, e1, e2, e3, xs, e4, e5⟩ := h; cases e1; exact ⟨some_ne e4, e3⟩
  | dct ds => obtain ⟨a, e1, e2, e3, xs, e4, e5⟩ := h; cases e1; exact ⟨some_ne e4, e3⟩
  | ref j => cases h.1
theorem StOk.thereA (h : StOk K l g s H S r A) {a : Addr} (e : some a ∈ A) : H a ≠ none ∧ S a = none := by
  obtain ⟨i, hi⟩ := List.mem_iff_getElem?.mp e
  have hl : i < l.length := by rw [← h.la]; exact (List.getElem?_eq_some_iff.mp hi).1
  obtain ⟨o, v, e1, e2, e3⟩ := h.ok i _ (List.getElem?_eq_getElem hl)
  rw [hi] at e1
  cases e1
  exact e3.there
theorem StOk.thereR (h : StOk K l g s H S r A) {a : Addr} (e : a ∈ r) : H a ≠ none ∧ S a = none := by
  obtain ⟨j, hj⟩ := List.mem_iff_getElem?.mp e
  have hl : j < g.length := by rw [← h.lg]; exact (List.getElem?_eq_some_iff.mp hj).1
  obtain ⟨q1, q2⟩ := h.st j a _ hj (List.getElem?_eq_getElem hl)
  exact ⟨q2.there, q1⟩
theorem StOk.there (h : StOk K l g s H S r A) {a : Addr} (e : tr A r a) : H a ≠ none ∧ S a = none := e.elim h.thereA h.thereR
/-- the general move: slots as they were, the store as told -/
theorem StOk.move (h : StOk K l g s H S r A) (hs : Same S S1) (hf : Same S1 H1) (hk : ∀ a, some a ∈ A → S1 a = none ∧ ∀ u, H a = some u → H1 a = some u) (hr : ∃ q, r1 = r ++ q) (rn : r1.Nodup) (dr : ∀ a, some a ∈ A → a ∉ r1) (lg : r1.length = g'.length)
    (st : ∀ (j : Nat) (a : Addr) (o : Ob), r1[j]? = some a → g'[j]? = some o → S1 a = none ∧ ObOk K S1 H1 a o) : StOk K l g' s H1 S1 r1 A :=
  ⟨hf, h.la, h.ls, fun i x e => by
    obtain ⟨o, v, e1, e2, e3⟩ := h.ok i x e
    exact ⟨o, v, e1, e2, e3.go hs (fun a ea => hk a (by rw [← ea]; exact List.mem_of_getElem? e1)) hr⟩, h.ij, dr, rn, lg, st⟩
theorem StOk.grow (h : StOk K l g s H S r A) (q : Grow m0 S H S1 H1) : StOk K l g s H1 S1 r A :=
  h.move q.s q.f (fun a ha => ⟨q.n a (h.thereA ha).2 (h.thereA ha).1, fun u e => q.all a u e⟩) ⟨[], by simp⟩ h.rn h.dr h.lg fun j a o e1 e2 => by
    obtain ⟨q1, q2⟩ := h.st j a o e1 e2
    exact ⟨q.n a q1 q2.there, q2.go q.s fun z e => q.all a z e⟩
/-- a call has been: the store is another -/
theorem StOk.call (h : StOk K l g s H S r A) (q : Grow (· ∈ r) S H S1 H1) (hr : ∃ q, r1 = r ++ q) (rn : r1.Nodup) (hn : ∀ a, a ∈ r1 → a ∈ r ∨ H a = none) (lg : r1.length = g'.length)
    (st : ∀ (j : Nat) (a : Addr) (o : Ob), r1[j]? = some a → g'[j]? = some o → S1 a = none ∧ ObOk K S1 H1 a o) : StOk K l g' s H1 S1 r1 A ∧ Mv S H r A S1 H1 r1 A :=
  ⟨h.move q.s q.f (fun a ha => ⟨q.n a (h.thereA ha).2 (h.thereA ha).1, fun u e => q.k a u (h.dr a ha) e⟩) hr rn (fun a ha z => (hn a z).elim (h.dr a ha) fun e => (h.thereA ha).1 e) lg st,
    ⟨q.s, q.f, fun a e1 e2 _ => q.n a e1 e2, fun a o hm e => q.k a o (fun z => hm (.inr z)) e, q.d, hr, fun a z => z.elim (fun z => .inl (.inl z)) fun z => (hn a z).elim (fun z => .inl (.inr z)) .inr⟩⟩
/-- a slot gets something that is no object of its own -/
theorem StOk.set {i : Nat} {y : Vl} {w : V} (h : StOk K l g s H S r A) (ok : SOk K S H r y none (some w)) : StOk K (l.set i y) g (s.set i (some w)) H S r (A.set i none) :=
  ⟨h.hs, by rw [List.length_set, List.length_set]; exact h.la, by rw [List.length_set, List.length_set]; exact h.ls, fun j z e => by
    by_cases hij : i = j
    · subst hij
      have hl : i < l.length := by
        have := (List.getElem?_eq_some_iff.mp e).1
        rwa [List.length_set] at this
      rw [List.getElem?_set_self hl] at e
      cases e
      exact ⟨none, some w, List.getElem?_set_self (by rw [h.la]; exact hl), List.getElem?_set_self (by rw [h.ls]; exact hl), ok⟩
    · rw [List.getElem?_set_ne hij] at e ⊢
      rw [List.getElem?_set_ne hij]
      exact h.ok j z e, fun j k a e1 e2 => by
    by_cases hij : i = j
    · subst hij
      have hl : i < A.length := by
        have := (List.getElem?_eq_some_iff.mp e1).1
        rwa [List.length_set] at this
      rw [List.getElem?_set_self hl] at e1
      cases e1
    · by_cases hik : i = k
      · subst hik
        have hl : i < A.length := by
          have := (List.getElem?_eq_some_iff.mp e2).1
          rwa [List.length_set] at this
        rw [List.getElem?_set_self hl] at e2
        cases e2
      · rw [List.getElem?_set_ne hij] at e1
        rw [List.getElem?_set_ne hik] at e2
        exact h.ij j k a e1 e2, fun a ha => by
    rcases List.mem_or_eq_of_mem_set ha with q | q
    · exact h.dr a q
    · exact absurd q (by simp), h.rn, h.lg, h.st⟩
theorem trset {i : Nat} {a : Addr} (h : tr (A.set i none) r a) : tr A r a := by
  rcases h with q | q
  · rcases List.mem_or_eq_of_mem_set q with q | q
    · exact .inl q
    · cases q
  · exact .inr q
theorem Mv.set {i : Nat} (h : Mv S H r A S1 H1 r1 A1) : Mv S H r A S1 H1 r1 (A1.set i none) := ⟨h.s, h.h, h.n, h.k, h.d, h.p, fun a z => h.f a (trset z)⟩
/-- a slot gets a new object of its own -/
theorem StOk.fresh {i : Nat} {y : Vl} {p : Addr} (h : StOk K l g s H S r A) (hA : some p ∉ A) (hr : p ∉ r) (ok : SOk K S H r y (some p) (some (.ref p))) : StOk K (l.set i y) g (s.set i (some (.ref p))) H S r (A.set i (some p)) :=
  ⟨h.hs, by rw [List.length_set, List.length_set]; exact h.la, by rw [List.length_set, List.length_set]; exact h.ls, fun j z e => by
    by_cases hij : i = j
    · subst hij
      have hl : i < l.length := by
        have := (List.getElem?_eq_some_iff.mp e).1
        rwa [List.length_set] at this
      rw [List.getElem?_set_self hl] at e
      cases e
      exact ⟨some p, some (.ref p), List.getElem?_set_self (by rw [h.la]; exact hl), List.getElem?_set_self (by rw [h.ls]; exact hl), ok⟩
    · rw [List.getElem?_set_ne hij] at e ⊢
      rw [List.getElem?_set_ne hij]
      exact h.ok j z e, fun j k a e1 e2 => by
    have key : ∀ m : Nat, (A.set i (some p))[m]? = some (some a) → (m = i ∧ a = p) ∨ (m ≠ i ∧ A[m]? = some (some a)) := fun m e => by
      by_cases him : i = m
      · subst him
        have hl : i < A.length := by
          have := (List.getElem?_eq_some_iff.mp e).1
          rwa [List.length_set] at this
        rw [List.getElem?_set_self hl] at e
        cases e
        exact .inl ⟨rfl, rfl⟩
      · rw [List.getElem?_set_ne him] at e
        exact .inr ⟨fun z => him z.symm, e⟩
    rcases key j e1 with ⟨q1, q2⟩ | ⟨q1, q2⟩
    · rcases key k e2 with ⟨q3, q4⟩ | ⟨q3, q4⟩
      · rw [q1, q3]
      · rw [q2] at q4; exact absurd (List.mem_of_getElem? q4) hA
    · rcases key k e2 with ⟨q3, q4⟩ | ⟨q3, q4⟩
      · rw [q4] at q2; exact absurd (List.mem_of_getElem? q2) hA
      · exact h.ij j k a q2 q4, fun a ha => by
    rcases List.mem_or_eq_of_mem_set ha with q | q
    · exact h.dr a q
    · exact (Option.some.inj q) ▸ hr, h.rn, h.lg, h.st⟩
theorem Mv.fresh {i : Nat} {p : Addr} (h : Mv S H r A S1 H1 r1 A1) (hp : H p = none) : Mv S H r A S1 H1 r1 (A1.set i (some p)) := ⟨h.s, h.h, h.n, h.k, h.d, h.p, fun a z => by
  rcases z with q | q
  · rcases List.mem_or_eq_of_mem_set q with q | q
    · exact h.f a (.inl q)
    · cases q; exact .inr hp
  · exact h.f a (.inr q)⟩
/-- the object of a slot is written -/
theorem StOk.putO {i : Nat} {y : Vl} {a : Addr} {u : HO} {w : Option V} (h : StOk K l g s H S r A) (hx : l[i]? = some x) (ha : A[i]? = some (some a)) (hw : s[i]? = some w) (ok : SOk K S (upd H a u) r y (some a) w) : StOk K (l.set i y) g s (upd H a u) S r A ∧ Mv S H r A S (upd H a u) r A := by
  have ht := h.thereA (List.mem_of_getElem? ha)
  have hne : ∀ b, some b ∈ A → ∀ j, A[j]? = some (some b) → j ≠ i → b ≠ a := fun b _ j e z q => z (h.ij j i a (by rw [← q]; exact e) ha)
  have hs : Same S (upd H a u) := fun b z e => by rw [upd_ne (ne_of_none e ht.2)]; exact h.hs b z e
  refine ⟨⟨hs, by rw [List.length_set]; exact h.la, by rw [List.length_set]; exact h.ls, fun j z e => ?_, h.ij, h.dr, h.rn, h.lg, fun j b o e1 e2 => ?_⟩, ⟨Same.refl S, hs, fun _ e _ _ => e, fun b z hm e => ?_, fun b e => ?_, ⟨[], by simp⟩, fun _ z => .inl z⟩⟩
  · by_cases hij : i = j
    · subst hij
      have hl : i < l.length := (List.getElem?_eq_some_iff.mp hx).1
      rw [List.getElem?_set_self hl] at e
      cases e
      exact ⟨some a, w, ha, hw, ok⟩
    · rw [List.getElem?_set_ne hij] at e
      obtain ⟨o, v, e1, e2, e3⟩ := h.ok j z e
      refine ⟨o, v, e1, e2, e3.go (Same.refl S) (fun b eb => ?_) ⟨[], by simp⟩⟩
      subst eb
      refine ⟨e3.there.2, fun z e => ?_⟩
      rw [upd_ne (hne b (List.mem_of_getElem? e1) j e1 fun q => hij q.symm)]
      exact e
  · obtain ⟨q1, q2⟩ := h.st j b o e1 e2
    have hb : b ≠ a := fun z => h.dr a (List.mem_of_getElem? ha) (by rw [← z]; exact List.mem_of_getElem? e1)
    exact ⟨q1, q2.go (Same.refl S) fun z e => by rw [upd_ne hb]; exact e⟩
  · have hb : b ≠ a := fun q => hm (.inl (by rw [q]; exact List.mem_of_getElem? ha))
    rw [upd_ne hb]; exact e
  · by_cases hb : b = a
    · subst hb; rw [upd_same]; exact fun q => nomatch q
    · rw [upd_ne hb]; exact e
/-- an object of the store is written -/
theorem StOk.putR {j : Nat} {a : Addr} {u : HO} {o' : Ob} (h : StOk K l g s H S r A) (ha : r[j]? = some a) (ok : ObOk K S (upd H a u) a o') : StOk K l (g.set j o') s (upd H a u) S r A ∧ Mv S H r A S (upd H a u) r A := by
  have ht := h.thereR (List.mem_of_getElem? ha)
  have hs : Same S (upd H a u) := fun b z e => by rw [upd_ne (ne_of_none e ht.2)]; exact h.hs b z e
  refine ⟨h.move (Same.refl S) hs (fun b hb => ⟨(h.thereA hb).2, fun z e => ?_⟩) ⟨[], by simp⟩ h.rn h.dr (by rw [List.length_set]; exact h.lg) (fun k b o e1 e2 => ?_), ⟨Same.refl S, hs, fun _ e _ _ => e, fun b z hm e => ?_, fun b e => ?_, ⟨[], by simp⟩, fun _ z => .inl z⟩⟩
  · rw [upd_ne fun q => h.dr b hb (by rw [q]; exact List.mem_of_getElem? ha)]; exact e
  · by_cases hjk : j = k
    · subst hjk
      have hl : j < g.length := by rw [← h.lg]; exact (List.getElem?_eq_some_iff.mp ha).1
      rw [List.getElem?_set_self hl] at e2
      rw [ha] at e1
      cases e1
      cases e2
      exact ⟨ht.2, ok⟩
    · rw [List.getElem?_set_ne hjk] at e2
      obtain ⟨q1, q2⟩ := h.st k b o e1 e2
      have hb : b ≠ a := fun q => by
        subst q
        exact hjk (nodup_inj h.rn ha e1)
      exact ⟨q1, q2.go (Same.refl S) fun z e => by rw [upd_ne hb]; exact e⟩
  · have hb : b ≠ a := fun q => hm (.inr (by rw [q]; exact List.mem_of_getElem? ha))
    rw [upd_ne hb]; exact e
  · by_cases hb : b = a
    · subst hb; rw [upd_same]; exact fun q => nomatch q
    · rw [upd_ne hb]; exact e
/-- the own list of a slot becomes data -/
theorem StOk.freeze {i : Nat} {ds : List PyData} (h : StOk K l g s H S r A) (hx : l[i]? = some (.own ds)) : ∃ S1, StOk K (l.set i (.dat (.list ds))) g s H S1 r (A.set i none) ∧ Mv S H r A S1 H r (A.set i none) := by
  obtain ⟨o, v, e1, e2, a, rfl, rfl, e3, xs, e4, e5⟩ := h.ok i _ hx
  have hm : Same S (upd S a (.lst xs)) := same_up e3
  have hil : i < l.length := (List.getElem?_eq_some_iff.mp hx).1
  have hf : Same (upd S a (.lst xs)) H := fun b z e => by
    by_cases hb : b = a
    · subst hb; rw [upd_same] at e; cases e; exact e4
    · rw [upd_ne hb] at e; exact h.hs b z e
  refine ⟨upd S a (.lst xs), ⟨hf, by rw [List.length_set, List.length_set]; exact h.la, by rw [List.length_set]; exact h.ls, fun j z e => ?_, fun j k b q1 q2 => ?_, fun b hb => ?_, h.rn, h.lg, fun j b o q1 q2 => ?_⟩, ⟨hm, hf, fun b q1 q2 q3 => ?_, fun b z _ e => e, fun b e => e, ⟨[], by simp⟩, fun b z => .inl (trset z)⟩⟩
  · by_cases hij : i = j
    · subst hij
      rw [List.getElem?_set_self hil] at e
      cases e
      exact ⟨none, _, List.getElem?_set_self (by rw [h.la]; exact hil), e2, rfl, _, rfl, .lst (.inl (.inl upd_same)) (DpAll_mono e5 hm)⟩
    · rw [List.getElem?_set_ne hij] at e ⊢
      obtain ⟨o, v, q1, q2, q3⟩ := h.ok j z e
      refine ⟨o, v, q1, q2, q3.go hm (fun b eb => ?_) ⟨[], by simp⟩⟩
      subst eb
      have hb : b ≠ a := fun q => hij (h.ij i j a e1 (by rw [← q]; exact q1))
      exact ⟨by rw [upd_ne hb]; exact q3.there.2, fun z e => e⟩
  · have key : ∀ m : Nat, (A.set i none)[m]? = some (some b) → A[m]? = some (some b) := fun m e => by
      by_cases him : i = m
      · subst him
        rw [List.getElem?_set_self (by rw [h.la]; exact hil)] at e
        cases e
      · rw [List.getElem?_set_ne him] at e
        exact e
    exact h.ij j k b (key j q1) (key k q2)
  · rcases List.mem_or_eq_of_mem_set hb with q | q
    · exact h.dr b q
    · cases q
  · obtain ⟨q3, q4⟩ := h.st j b o q1 q2
    have hb : b ≠ a := fun z => h.dr a (List.mem_of_getElem? e1) (by rw [← z]; exact List.mem_of_getElem? q1)
    exact ⟨by rw [upd_ne hb]; exact q3, q4.go hm fun z e => e⟩
  · have hb : b ≠ a := fun z => q3 (.inl (by rw [z]; exact List.mem_of_getElem? e1))
    rw [upd_ne hb]; exact q1
end
end Sm

namespace Sm
open PySem L2 RZ Dz

/-! ### what comes to what -/
def EvS (K : PySem.W.Frag) (te : TE) (e : M PyData) : Prop := ∀ l g d l' g' s H S r A, e l g = some (d, l', g') → StOk K l g s H S r A → ∀ Q : VK, (∀ v H' S' r' A', Mv S H r A S' H' r' A' → StOk K l' g' s H' S' r' A' → Dp K S' v d → Q v H') → te s H Q
def EvT (K : PySem.W.Frag) (tt : TT) (e : M Bool) : Prop := ∀ l g b l' g' s H S r A, e l g = some (b, l', g') → StOk K l g s H S r A → ∀ Q : Bool → Hp → Prop, (∀ H' S' r' A', Mv S H r A S' H' r' A' → StOk K l' g' s H' S' r' A' → Q b H') → tt s H Q
def EvA (K : PySem.W.Frag) (ta : TA) (e : M (List PyData)) : Prop := ∀ l g ds l' g' s H S r A, e l g = some (ds, l', g') → StOk K l g s H S r A → ∀ Q : List V → Hp → Prop, (∀ vs H' S' r' A', Mv S H r A S' H' r' A' → StOk K l' g' s H' S' r' A' → DpAll K S' vs ds → Q vs H') → ta s H Q
def EvO (K : PySem.W.Frag) (to : TO) (e : M (Option Int)) : Prop := ∀ l g o l' g' s H S r A, e l g = some (o, l', g') → StOk K l g s H S r A → ∀ Q : Option Int → Hp → Prop, (∀ H' S' r' A', Mv S H r A S' H' r' A' → StOk K l' g' s H' S' r' A' → Q o H') → to s H Q
/-- a new list, nobody's yet -/
def EvL (K : PySem.W.Frag) (te : TE) (e : M (List PyData)) : Prop := ∀ l g ds l' g' s H S r A, e l g = some (ds, l', g') → StOk K l g s H S r A → ∀ Q : VK, (∀ p xs H' S' r' A', Mv S H r A S' H' r' A' → StOk K l' g' s H' S' r' A' → H p = none → ¬ tr A' r' p → S' p = none → H' p = some (.lst xs) → DpAll K S' xs ds → Q (.ref p) H') → te s H Q
/-- a new dict, nobody's yet -/
def EvC (K : PySem.W.Frag) (te : TE) (e : M (List (Key × PyData))) : Prop := ∀ l g ds l' g' s H S r A, e l g = some (ds, l', g') → StOk K l g s H S r A → ∀ Q : VK, (∀ p xs H' S' r' A', Mv S H r A S' H' r' A' → StOk K l' g' s H' S' r' A' → H p = none → ¬ tr A' r' p → S' p = none → H' p = some (.dK xs) → KvD K S' xs ds → Q (.ref p) H') → te s H Q
def EvI (K : PySem.W.Frag) (wi : TI) (e : M (List PyData)) : Prop := ∀ l g ds l' g' s H S r A, e l g = some (ds, l', g') → StOk K l g s H S r A → ∀ R : It → Hp → Prop, (∀ J H' S' r' A', Mv S H r A S' H' r' A' → StOk K l' g' s H' S' r' A' → WalkD K J S' ds → R J H') → wi s H R
/-- values: data, or an object of the store -/
def VOk (K : PySem.W.Frag) (S : Hp) (r : List Addr) (v : V) : Vl → Prop
  | .dat d => Dp K S v d
  | .ref j => ∃ a, r[j]? = some a ∧ v = .ref a
  | _ => False
def VsOk (K : PySem.W.Frag) (S : Hp) (r : List Addr) : List V → List Vl → Prop := Paired (VOk K S r)
def EvV (K : PySem.W.Frag) (te : TE) (e : M Vl) : Prop := ∀ l g d l' g' s H S r A, e l g = some (d, l', g') → StOk K l g s H S r A → ∀ Q : VK, (∀ v H' S' r' A', Mv S H r A S' H' r' A' → StOk K l' g' s H' S' r' A' → VOk K S' r' v d → Q v H') → te s H Q
def EvVA (K : PySem.W.Frag) (ta : TA) (e : M (List Vl)) : Prop := ∀ l g ds l' g' s H S r A, e l g = some (ds, l', g') → StOk K l g s H S r A → ∀ Q : List V → Hp → Prop, (∀ vs H' S' r' A', Mv S H r A S' H' r' A' → StOk K l' g' s H' S' r' A' → VsOk K S' r' vs ds → Q vs H') → ta s H Q
theorem VOk.go {K : PySem.W.Frag} {S S1 : Hp} {r r1 : List Addr} {v : V} {x : Vl} (h : VOk K S r v x) (hs : Same S S1) (hr : ∃ q, r1 = r ++ q) : VOk K S1 r1 v x := by
  cases x with
  | dat d => exact Dp_mono h hs
  | ref j =>
    obtain ⟨a, e2, e3⟩ := h
    obtain ⟨q, rfl⟩ := hr
    exact ⟨a, by rw [List.getElem?_append_left (List.getElem?_eq_some_iff.mp e2).1]; exact e2, e3⟩
  | no => exact h
  | own ds => exact h
  | dct ds => exact h
theorem VsOk.go {K : PySem.W.Frag} {S S1 : Hp} {r r1 : List Addr} {v : List V} {x : List Vl} (h : VsOk K S r v x) (hs : Same S S1) (hr : ∃ q, r1 = r ++ q) : VsOk K S1 r1 v x := Paired.mapP h fun _ _ q => q.go hs hr

/-! ### the plain words -/
def fail {α : Type} : M α := fun _ _ => none
def eVar (i : Nat) : M PyData := fun l g => match l[i]? with
  | some (.dat d) => some (d, l, g)
  | _ => none
def eC (d : PyData) : M PyData := mp d
def eOp (f : PyData → PyData → Option PyData) (a b : M PyData) : M PyData := mb a fun x => mb b fun y => mo (f x y)
def eUn (f : PyData → Option PyData) (a : M PyData) : M PyData := mb a fun x => mo (f x)
def aNil : M (List PyData) := mp []
def aCons (a : M PyData) (r : M (List PyData)) : M (List PyData) := mb a fun x => mb r fun xs => mp (x :: xs)
def eCB (f : List PyData → Option PyData) (a : M (List PyData)) : M PyData := mb a fun xs => mo (f xs)
def smallO {α : Type} (n : Nat) (a : α) : Option α := if n ≤ 100000 then some a else none
def eTup (a : M (List PyData)) : M PyData := mb a fun xs => mo (smallO xs.length (.tuple xs))
def eL (m : M (List PyData)) : M PyData := mb m fun xs => mp (.list xs)
def lLst (a : M (List PyData)) : M (List PyData) := mb a fun xs => mo (smallO xs.length xs)
def eIf (t : M Bool) (a b : M PyData) : M PyData := mb t fun c => if c = true then a else b
def truO : PyData → Option Bool
  | .str y => if y.length ≤ 100000 then some ((y.length : Int) != 0) else none
  | d => some (truD d)
def eAnd (a b : M PyData) : M PyData := mb a fun x => mb (mo (truO x)) fun c => if c = true then b else mp x
def eOr (a b : M PyData) : M PyData := mb a fun x => mb (mo (truO x)) fun c => if c = true then mp x else b
def eNot (a : M PyData) : M PyData := mb a fun x => mo ((truO x).map fun c => .bool (!c))
def eIsN (a : M PyData) : M PyData := mb a fun x => mp (.bool (isN x))
def eNotN (a : M PyData) : M PyData := mb a fun x => mp (.bool (!isN x))
def asB : PyData → Option Bool
  | .bool b => some b
  | _ => none
def asI : PyData → Option Int
  | .int b => some b
  | _ => none
def eChain (f f' : PyData → PyData → Option PyData) (a b c : M PyData) : M PyData := mb a fun x => mb b fun y => mb (mo ((f x y).bind asB)) fun z => if z = true then mb c fun w => mo (f' y w) else mp (.bool false)
def bTest (a : M PyData) : M Bool := mb a fun x => mo (asB x)
def bTru (a : M PyData) : M Bool := mb a fun x => mo (truO x)
def bNot (t : M Bool) : M Bool := mb t fun b => mp (!b)
def bAnd (t u : M Bool) : M Bool := mb t fun b => if b = true then u else mp false
def bOr (t u : M Bool) : M Bool := mb t fun b => if b = true then mp true else u
def bYes : M Bool := mp true
def oNone : M (Option Int) := mp none
def oSome (a : M PyData) : M (Option Int) := mb a fun x => mb (mo (asI x)) fun i => mp (some i)
def slD (d : PyData) (lo hi : Option Int) : Option PyData := match d with
  | .list ds => some (.list (cutD ds lo hi))
  | .tuple ds => some (.tuple (cutD ds lo hi))
  | _ => none
def eSl (a : M PyData) (lo hi : M (Option Int)) : M PyData := mb a fun x => mb lo fun i => mb hi fun j => mo (slD x i j)

/-! ### operators on data -/
def RDO (K : PySem.W.Frag) (r : R2) (f : PyData → PyData → Option PyData) : Prop := ∀ a b c, f a b = some c → RD K r a b c
def RUO (K : PySem.W.Frag) (r : V → Hp → VK → Prop) (f : PyData → Option PyData) : Prop := ∀ a c, f a = some c → RUD K r a c
def RCO (K : PySem.W.Frag) (r : List V → Hp → VK → Prop) (f : List PyData → Option PyData) : Prop := ∀ a c, f a = some c → RCD K r a c
def iOp (h : Int → Int → PyData) : PyData → PyData → Option PyData
  | .int i, .int j => some (h i j)
  | _, _ => none
def iOpC (C : Int → Int → Bool) (h : Int → Int → PyData) : PyData → PyData → Option PyData
  | .int i, .int j => if C i j = true then some (h i j) else none
  | _, _ => none
def subD := iOp fun i j => .int (i - j)
def ltD := iOp fun i j => .bool (decide (i < j))
def leD := iOp fun i j => .bool (decide (i ≤ j))
def gtD := iOp fun i j => .bool (decide (j < i))
def geD := iOp fun i j => .bool (decide (j ≤ i))
def modD := iOpC (fun _ j => decide (0 < j)) fun i j => .int (i % j)
def fdivD := iOpC (fun _ j => decide (0 < j) && decide (j < 1073741824)) fun i j => .int (i / j)
def mulD := iOpC (fun i j => (decide (-(2 ^ 64) < i) && decide (i < 2 ^ 64)) || (decide (-(2 ^ 64) < j) && decide (j < 2 ^ 64))) fun i j => .int (i * j)
def plusD : PyData → PyData → Option PyData
  | .int i, .int j => some (.int (i + j))
  | .list xs, .list ys => if xs.length + ys.length ≤ 100000 then some (.list (xs ++ ys)) else none
  | .tuple xs, .tuple ys => if xs.length + ys.length ≤ 100000 then some (.tuple (xs ++ ys)) else none
  | .str i, .str j => if i.length + j.length ≤ 100000 then some (.str (i ++ j)) else none
  | _, _ => none
def negD : PyData → Option PyData
  | .int i => some (.int (-i))
  | _ => none
def eqD (a b : PyData) : Option PyData := if SeqAt.shaped a = true ∧ SeqAt.shaped b = true then some (.bool (PyData.eqv a b)) else match a, b with
  | .str x, .str y => some (.bool (decide (x = y)))
  | .str _, .int _ => some (.bool false)
  | .int _, .str _ => some (.bool false)
  | _, _ => none
def neD (a b : PyData) : Option PyData := (eqD a b).map fun x => match x with
  | .bool c => .bool (!c)
  | x => x
def ixD (a b : PyData) : Option PyData := match a, b with
  | .tuple ds, .int i => atI ds i
  | .list ds, .int i => atI ds i
  | _, _ => none
def inFD (neg : Bool) (a b : PyData) : Option PyData := if flatD a = true then match b with
  | .list ds => if ds.all flatD = true then some (.bool (if neg then !inF a ds else inF a ds)) else none
  | .tuple ds => if ds.all flatD = true then some (.bool (if neg then !inF a ds else inF a ds)) else none
  | _ => none
  else none
/-- in, of any data: a list -/
def inDD (neg : Bool) (a b : PyData) : Option PyData := match b with
  | .list ds => if SeqAt.shaped a = true ∧ SeqAt.shaped (.list ds) = true then some (.bool (if neg then !ds.any fun z => PyData.eqv z a else ds.any fun z => PyData.eqv z a)) else none
  | _ => none
section
variable {K : PySem.W.Frag}
theorem ro_I0 {g : Int → Int → V} {h : Int → Int → PyData} (q : ∀ S i j, Dp K S (g i j) (h i j)) : RDO K (rI0 g) (iOp h) := fun a b c e => by
  unfold iOp at e
  split at e
  · cases e; exact rd_I0 fun S => q S _ _
  · cases e
theorem ro_IC {C : Int → Int → Prop} {C' : Int → Int → Bool} {g : Int → Int → V} {h : Int → Int → PyData} (q : ∀ S i j, Dp K S (g i j) (h i j)) (hc : ∀ i j, C' i j = true → C i j) : RDO K (rI C g) (iOpC C' h) := fun a b c e => by
  unfold iOpC at e
  split at e
  · split at e
    · rename_i hq
      cases e; exact rd_I (hc _ _ hq) fun S => q S _ _
    · cases e
  · cases e
theorem ro_sub : RDO K (rI0 fun i j => .int (i - j)) subD := ro_I0 fun _ _ _ => .int _
theorem ro_lt : RDO K (rI0 fun i j => .bl (decide (i < j))) ltD := ro_I0 fun _ _ _ => .bl _
theorem ro_le : RDO K (rI0 fun i j => .bl (decide (i ≤ j))) leD := ro_I0 fun _ _ _ => .bl _
theorem ro_gt : RDO K (rI0 fun i j => .bl (decide (j < i))) gtD := ro_I0 fun _ _ _ => .bl _
theorem ro_ge : RDO K (rI0 fun i j => .bl (decide (j ≤ i))) geD := ro_I0 fun _ _ _ => .bl _
theorem ro_mod : RDO K (rI (fun _ j => 0 < j) fun i j => .int (i % j)) modD := ro_IC (fun _ _ _ => .int _) fun i j h => by simpa using h
theorem ro_fdiv : RDO K (rI CDiv fun i j => .int (i / j)) fdivD := ro_IC (fun _ _ _ => .int _) fun i j h => by
  simp at h
  exact ⟨h.1, h.2⟩
theorem ro_times : RDO K rTimes mulD := fun a b c e => rd_l (ro_IC (C := CMul) (g := fun i j => .int (i * j)) (fun _ _ _ => .int _) (fun i j h => by
  simp only [Bool.or_eq_true, Bool.and_eq_true, decide_eq_true_eq] at h
  exact h) a b c e)
theorem ro_plus : RDO K (rPlus K) plusD := fun a b c e => by
  unfold plusD at e
  split at e
  · cases e; exact rd_plusI
  · split at e
    · cases e; exact rd_plusL (by assumption)
    · cases e
  · split at e
    · cases e; exact rd_plusT (by assumption)
    · cases e
  · split at e
    · cases e; exact rd_plusS (by assumption)
    · cases e
  · cases e
theorem ro_neg : RUO K (rU fun i => .int (-i)) negD := fun a c e => by
  unfold negD at e
  split at e
  · cases e; exact rud_U fun _ => .int _
  · cases e
theorem ro_eq : RDO K (rEqA K) eqD := fun a b c e => by
  unfold eqD at e
  split at e
  · rename_i h
    cases e; exact rd_eqD h.1 h.2
  · split at e
    · cases e; exact rd_eqA rd_eqS
    · cases e; exact rd_eqA rd_eqSI
    · cases e; exact rd_eqA rd_eqIS
    · cases e
theorem ro_ne : RDO K (rNeA K) neD := fun a b c e => by
  unfold neD eqD at e
  split at e
  · rename_i h
    cases e; exact rd_neD h.1 h.2
  · split at e
    · cases e; exact rd_neA rd_neS
    · cases e; exact rd_neA rd_neSI
    · cases e; exact rd_neA rd_neIS
    · cases e
theorem ro_ix : RDO K (rIx K) ixD := fun a b c e => by
  unfold ixD at e
  split at e
  · exact rd_ixT e
  · exact rd_ixL e
  · cases e
theorem ro_in {neg : Bool} : RDO K (rIn K neg) (inFD neg) := fun a b c e => by
  unfold inFD at e
  split at e
  · rename_i hf
    split at e
    · split at e
      · rename_i hq; cases e; exact rd_inL hf hq
      · cases e
    · split at e
      · rename_i hq; cases e; exact rd_inT hf hq
      · cases e
    · cases e
  · cases e
theorem ro_inD : RDO K (rInD K) (inDD false) := fun a b c e => by
  unfold inDD at e
  split at e
  · split at e
    · rename_i hq
      cases e
      exact fun x y S H Q hs hx hy q => ⟨_, _, Dp_mono hx hs, Dp_mono hy hs, hq.1, hq.2, q _ S H (Grow.refl hs) (.bl _)⟩
    · cases e
  · cases e
theorem ro_notinD : RDO K (rNotInD K) (inDD true) := fun a b c e => by
  unfold inDD at e
  split at e
  · split at e
    · rename_i hq
      cases e
      exact fun x y S H Q hs hx hy q => ⟨_, _, Dp_mono hx hs, Dp_mono hy hs, hq.1, hq.2, q _ S H (Grow.refl hs) (.bl _)⟩
    · cases e
  · cases e
end
/-! ### the rules come to them -/
section
variable {K : PySem.W.Frag} {ta tb te tc : TE} {tt tu : TT} {a b c : M PyData} {t u : M Bool} {r0 : R2}
theorem s_var {i : Nat} : EvS K (tVar i) (eVar i) := fun l g d l' g' s H S r A e h Q q => by
  unfold eVar at e
  split at e
  · rename_i d' hl
    cases e
    obtain ⟨o, v, e1, e2, e3, w, rfl, e4⟩ := h.ok i _ hl
    exact ⟨w, e2, q w H S r A (Mv.refl h.hs) h e4⟩
  · cases e
theorem s_int {i : Int} : EvS K (tC (.int i)) (eC (.int i)) := fun l g d l' g' s H S r A e h Q q => by
  obtain ⟨rfl, rfl, rfl⟩ := mp_some e
  exact q _ H S r A (Mv.refl h.hs) h (.int i)
theorem s_bl {i : Bool} : EvS K (tC (.bl i)) (eC (.bool i)) := fun l g d l' g' s H S r A e h Q q => by
  obtain ⟨rfl, rfl, rfl⟩ := mp_some e
  exact q _ H S r A (Mv.refl h.hs) h (.bl i)
theorem s_str {i : Str} : EvS K (tC (.str i)) (eC (.str i)) := fun l g d l' g' s H S r A e h Q q => by
  obtain ⟨rfl, rfl, rfl⟩ := mp_some e
  exact q _ H S r A (Mv.refl h.hs) h (.str i)
theorem s_non : EvS K (tC .non) (eC .none) := fun l g d l' g' s H S r A e h Q q => by
  obtain ⟨rfl, rfl, rfl⟩ := mp_some e
  exact q _ H S r A (Mv.refl h.hs) h .non
theorem s_op {f : PyData → PyData → Option PyData} (hr : RDO K r0 f) (ha : EvS K ta a) (hb : EvS K tb b) : EvS K (tOp r0 ta tb) (eOp f a b) := fun l g d l' g' s H S r A e h Q q => by
  replace e := mb_some e; obtain ⟨x, l1, g1, e1, e⟩ := e
  replace e := mb_some e; obtain ⟨y, l2, g2, e2, e⟩ := e
  replace e := mo_some e; obtain ⟨e, rfl, rfl⟩ := e
  refine ha _ _ _ _ _ s H S r A e1 h _ fun v1 H1 S1 r1 A1 m1 h1 d1 => hb _ _ _ _ _ s H1 S1 r1 A1 e2 h1 _ fun v2 H2 S2 r2 A2 m2 h2 d2 => ?_
  exact hr x y d e v1 v2 S2 H2 Q h2.hs (Dp_mono d1 m2.s) d2 fun v S3 H3 g3 d3 => q v H3 S3 r2 A2 ((m1.trans m2).trans (Mv.grow g3)) (h2.grow g3) d3
theorem s_un {r : V → Hp → VK → Prop} {f : PyData → Option PyData} (hr : RUO K r f) (ha : EvS K ta a) : EvS K (tUn r ta) (eUn f a) := fun l g d l' g' s H S r A e h Q q => by
  replace e := mb_some e; obtain ⟨x, l1, g1, e1, e⟩ := e
  replace e := mo_some e; obtain ⟨e, rfl, rfl⟩ := e
  refine ha _ _ _ _ _ s H S r A e1 h _ fun v1 H1 S1 r1 A1 m1 h1 d1 => ?_
  exact hr x d e v1 S1 H1 Q h1.hs d1 fun v S3 H3 g3 d3 => q v H3 S3 r1 A1 (m1.trans (Mv.grow g3)) (h1.grow g3) d3
theorem s_nil : EvA K tNil aNil := fun l g d l' g' s H S r A e h Q q => by
  obtain ⟨rfl, rfl, rfl⟩ := mp_some e
  exact q _ H S r A (Mv.refl h.hs) h .nil
theorem s_cons {tr : TA} {m : M (List PyData)} (ha : EvS K ta a) (hb : EvA K tr m) : EvA K (tCons ta tr) (aCons a m) := fun l g d l' g' s H S r A e h Q q => by
  replace e := mb_some e; obtain ⟨x, l1, g1, e1, e⟩ := e
  replace e := mb_some e; obtain ⟨y, l2, g2, e2, e⟩ := e
  obtain ⟨rfl, rfl, rfl⟩ := mp_some e
  exact ha _ _ _ _ _ s H S r A e1 h _ fun v1 H1 S1 r1 A1 m1 h1 d1 => hb _ _ _ _ _ s H1 S1 r1 A1 e2 h1 _ fun v2 H2 S2 r2 A2 m2 h2 d2 => q _ H2 S2 r2 A2 (m1.trans m2) h2 (.cons (Dp_mono d1 m2.s) d2)
theorem s_cb {rr : List V → Hp → VK → Prop} {tr : TA} {m : M (List PyData)} {f : List PyData → Option PyData} (hr : RCO K rr f) (ha : EvA K tr m) : EvS K (tCB rr tr) (eCB f m) := fun l g d l' g' s H S r A e h Q q => by
  replace e := mb_some e; obtain ⟨x, l1, g1, e1, e⟩ := e
  replace e := mo_some e; obtain ⟨e, rfl, rfl⟩ := e
  refine ha _ _ _ _ _ s H S r A e1 h _ fun v1 H1 S1 r1 A1 m1 h1 d1 => ?_
  exact hr x d e v1 S1 H1 Q h1.hs d1 fun v S3 H3 g3 d3 => q v H3 S3 r1 A1 (m1.trans (Mv.grow g3)) (h1.grow g3) d3
theorem smallO_some {α : Type} {n : Nat} {a b : α} (h : smallO n a = some b) : n ≤ 100000 ∧ b = a := by
  unfold smallO at h
  split at h
  · cases h; exact ⟨by assumption, rfl⟩
  · cases h
theorem s_tup {tr : TA} {m : M (List PyData)} (ha : EvA K tr m) : EvS K (tTup tr) (eTup m) := fun l g d l' g' s H S r A e h Q q => by
  replace e := mb_some e; obtain ⟨x, l1, g1, e1, e⟩ := e
  replace e := mo_some e; obtain ⟨e, rfl, rfl⟩ := e
  obtain ⟨hz, rfl⟩ := smallO_some e
  exact ha _ _ _ _ _ s H S r A e1 h _ fun v1 H1 S1 r1 A1 m1 h1 d1 => ⟨szl (by rw [DpAll_len d1]; exact hz), new_tup h1.hs d1 fun v S3 H3 g3 d3 => q v H3 S3 r1 A1 (m1.trans (Mv.grow g3)) (h1.grow g3) d3⟩
/-- a new object becomes data -/
theorem StOk.take {l : Lo} {g : Sg} {s : L2.St} {H S : Hp} {r : List Addr} {A : List (Option Addr)} {D : Addr} {o : HO} (h : StOk K l g s H S r A) (ht : ¬ tr A r D) (hS : S D = none) (hx : H D = some o) : StOk K l g s H (upd S D o) r A := by
  have hm : Same S (upd S D o) := same_up hS
  refine h.move hm (fun b z e => ?_) (fun b hb => ⟨?_, fun u e => e⟩) ⟨[], by simp⟩ h.rn h.dr h.lg fun j b u e1 e2 => ?_
  · by_cases hb : b = D
    · subst hb; rw [upd_same] at e; cases e; exact hx
    · rw [upd_ne hb] at e; exact h.hs b z e
  · have : b ≠ D := fun z => ht (.inl (by rw [← z]; exact hb))
    rw [upd_ne this]; exact (h.thereA hb).2
  · obtain ⟨q1, q2⟩ := h.st j b u e1 e2
    have : b ≠ D := fun z => ht (.inr (by rw [← z]; exact List.mem_of_getElem? e1))
    exact ⟨by rw [upd_ne this]; exact q1, q2.go hm fun z e => e⟩
theorem Mv.take {S H S1 H1 : Hp} {r r1 : List Addr} {A A1 : List (Option Addr)} {D : Addr} {o : HO} (h : Mv S H r A S1 H1 r1 A1) (h0 : H D = none) (hS : S1 D = none) (hx : H1 D = some o) : Mv S H r A (upd S1 D o) H1 r1 A1 :=
  ⟨h.s.trans (same_up hS), fun b z e => by
    by_cases hb : b = D
    · subst hb; rw [upd_same] at e; cases e; exact hx
    · rw [upd_ne hb] at e; exact h.h b z e, fun b q1 q2 q3 => by
    have : b ≠ D := fun z => q2 (by rw [z]; exact h0)
    rw [upd_ne this]; exact h.n b q1 q2 q3, h.k, h.d, h.p, h.f⟩
theorem s_ofL {m : M (List PyData)} (h : EvL K te m) : EvS K te (eL m) := fun l g d l' g' s H S r A e hA Q q => by
  replace e := mb_some e; obtain ⟨x, l1, g1, e1, e⟩ := e
  obtain ⟨rfl, rfl, rfl⟩ := mp_some e
  exact h _ _ _ _ _ s H S r A e1 hA _ fun p xs H1 S1 r1 A1 m1 h1 hp ht sp hx hd => q _ H1 _ r1 A1 (m1.take hp sp hx) (h1.take ht sp hx) (.lst (.inl (.inl upd_same)) (DpAll_mono hd (same_up sp)))
/-- a new list is laid -/
theorem new_l {l : Lo} {g : Sg} {s : L2.St} {H S H1 S1 : Hp} {r r1 : List Addr} {A A1 : List (Option Addr)} {xs : List V} {ds : List PyData} {Q : VK} (m1 : Mv S H r A S1 H1 r1 A1) (h1 : StOk K l g s H1 S1 r1 A1) (hd : DpAll K S1 xs ds)
    (q : ∀ p xs H' S' r' A', Mv S H r A S' H' r' A' → StOk K l g s H' S' r' A' → H p = none → ¬ tr A' r' p → S' p = none → H' p = some (.lst xs) → DpAll K S' xs ds → Q (.ref p) H') : ∀ p, H1 p = none → Q (.ref p) (upd H1 p (.lst xs)) := fun p hp => by
  have g2 : Grow m0 S1 H1 S1 (upd H1 p (.lst xs)) := Grow.out h1.hs hp
  refine q p xs _ S1 r1 A1 (m1.trans (Mv.grow g2)) (h1.grow g2) ?_ (fun z => (h1.there z).1 hp) (h1.hs.free hp) upd_same hd
  cases hq : H p with
  | none => rfl
  | some u => exact absurd hp (m1.d p (some_ne hq))
theorem s_lst {tr : TA} {m : M (List PyData)} (ha : EvA K tr m) : EvL K (tLst tr) (lLst m) := fun l g d l' g' s H S r A e h Q q => by
  replace e := mb_some e; obtain ⟨x, l1, g1, e1, e⟩ := e
  replace e := mo_some e; obtain ⟨e, rfl, rfl⟩ := e
  obtain ⟨hz, rfl⟩ := smallO_some e
  exact ha _ _ _ _ _ s H S r A e1 h _ fun v1 H1 S1 r1 A1 m1 h1 d1 => ⟨szl (by rw [DpAll_len d1]; exact hz), new_l m1 h1 d1 q⟩
theorem s_if (ht : EvT K tt t) (ha : EvS K ta a) (hb : EvS K tb b) : EvS K (tIf tt ta tb) (eIf t a b) := fun l g d l' g' s H S r A e h Q q => by
  replace e := mb_some e; obtain ⟨x, l1, g1, e1, e⟩ := e
  refine ht _ _ _ _ _ s H S r A e1 h _ fun H1 S1 r1 A1 m1 h1 => ?_
  cases x with
  | true => exact ha _ _ _ _ _ s H1 S1 r1 A1 e h1 _ fun v2 H2 S2 r2 A2 m2 h2 d2 => q v2 H2 S2 r2 A2 (m1.trans m2) h2 d2
  | false => exact hb _ _ _ _ _ s H1 S1 r1 A1 e h1 _ fun v2 H2 S2 r2 A2 m2 h2 d2 => q v2 H2 S2 r2 A2 (m1.trans m2) h2 d2
theorem truO_ok {S H : Hp} {v : V} {d : PyData} {c : Bool} (e : truO d = some c) (hs : Same S H) (h : Dp K S v d) : TruV K v H c := by
  cases d with
  | str y =>
    by_cases hy : y.length ≤ 100000
    · have : truO (.str y) = some ((y.length : Int) != 0) := by show (if _ then _ else _) = _; rw [if_pos hy]
      rw [this] at e
      cases e
      exact truV_of hs h fun y' e => by cases e; exact hy
    · have : truO (.str y) = none := by show (if _ then _ else _) = _; rw [if_neg hy]
      rw [this] at e
      cases e
  | none => cases e; exact truV_of hs h fun y e => by cases e
  | bool b => cases e; exact truV_of hs h fun y e => by cases e
  | int b => cases e; exact truV_of hs h fun y e => by cases e
  | list b => cases e; exact truV_of hs h fun y e => by cases e
  | tuple b => cases e; exact truV_of hs h fun y e => by cases e
  | dict b => cases h
theorem s_and (ha : EvS K ta a) (hb : EvS K tb b) : EvS K (tAndT K ta tb) (eAnd a b) := fun l g d l' g' s H S r A e h Q q => by
  replace e := mb_some e; obtain ⟨x, l1, g1, e1, e⟩ := e
  replace e := mb_some e; obtain ⟨k, l2, g2, e2, e⟩ := e
  replace e2 := mo_some e2; obtain ⟨e2, rfl, rfl⟩ := e2
  refine ha _ _ _ _ _ s H S r A e1 h _ fun v1 H1 S1 r1 A1 m1 h1 d1 => ⟨k, truO_ok e2 h1.hs d1, ?_⟩
  cases k with
  | true => exact hb _ _ _ _ _ s H1 S1 r1 A1 e h1 _ fun v2 H2 S2 r2 A2 m2 h2 d2 => q v2 H2 S2 r2 A2 (m1.trans m2) h2 d2
  | false =>
    obtain ⟨rfl, rfl, rfl⟩ := mp_some e
    exact q v1 H1 S1 r1 A1 m1 h1 d1
theorem s_or (ha : EvS K ta a) (hb : EvS K tb b) : EvS K (tOrT K ta tb) (eOr a b) := fun l g d l' g' s H S r A e h Q q => by
  replace e := mb_some e; obtain ⟨x, l1, g1, e1, e⟩ := e
  replace e := mb_some e; obtain ⟨k, l2, g2, e2, e⟩ := e
  replace e2 := mo_some e2; obtain ⟨e2, rfl, rfl⟩ := e2
  refine ha _ _ _ _ _ s H S r A e1 h _ fun v1 H1 S1 r1 A1 m1 h1 d1 => ⟨k, truO_ok e2 h1.hs d1, ?_⟩
  cases k with
  | false => exact hb _ _ _ _ _ s H1 S1 r1 A1 e h1 _ fun v2 H2 S2 r2 A2 m2 h2 d2 => q v2 H2 S2 r2 A2 (m1.trans m2) h2 d2
  | true =>
    obtain ⟨rfl, rfl, rfl⟩ := mp_some e
    exact q v1 H1 S1 r1 A1 m1 h1 d1
theorem s_not (ha : EvS K ta a) : EvS K (tNotT K ta) (eNot a) := fun l g d l' g' s H S r A e h Q q => by
  replace e := mb_some e; obtain ⟨x, l1, g1, e1, e⟩ := e
  replace e := mo_some e; obtain ⟨e, rfl, rfl⟩ := e
  obtain ⟨k, ek, rfl⟩ := Option.map_eq_some_iff.mp e
  exact ha _ _ _ _ _ s H S r A e1 h _ fun v1 H1 S1 r1 A1 m1 h1 d1 => ⟨k, truO_ok ek h1.hs d1, q _ H1 S1 r1 A1 m1 h1 (.bl _)⟩
theorem s_isN (ha : EvS K ta a) : EvS K (tIsN ta) (eIsN a) := fun l g d l' g' s H S r A e h Q q => by
  replace e := mb_some e; obtain ⟨x, l1, g1, e1, e⟩ := e
  obtain ⟨rfl, rfl, rfl⟩ := mp_some e
  exact ha _ _ _ _ _ s H S r A e1 h _ fun v1 H1 S1 r1 A1 m1 h1 d1 => q _ H1 S1 r1 A1 m1 h1 (by rw [dp_isN d1]; exact .bl _)
theorem s_notN (ha : EvS K ta a) : EvS K (tNotN ta) (eNotN a) := fun l g d l' g' s H S r A e h Q q => by
  replace e := mb_some e; obtain ⟨x, l1, g1, e1, e⟩ := e
  obtain ⟨rfl, rfl, rfl⟩ := mp_some e
  exact ha _ _ _ _ _ s H S r A e1 h _ fun v1 H1 S1 r1 A1 m1 h1 d1 => q _ H1 S1 r1 A1 m1 h1 (by rw [dp_isN d1]; exact .bl _)
theorem asB_some {d : PyData} {b : Bool} (h : asB d = some b) : d = .bool b := by
  cases d <;> first | cases h | skip
  rfl
theorem asI_some {d : PyData} {b : Int} (h : asI d = some b) : d = .int b := by
  cases d <;> first | cases h | skip
  rfl
theorem s_chain {r1 r2 : R2} {f f' : PyData → PyData → Option PyData} (hr : RDO K r1 f) (hr' : RDO K r2 f') (ha : EvS K ta a) (hb : EvS K tb b) (hc : EvS K tc c) : EvS K (tChain r1 r2 ta tb tc) (eChain f f' a b c) := fun l g d l' g' s H S r A e h Q q => by
  replace e := mb_some e; obtain ⟨x, l1, g1, e1, e⟩ := e
  replace e := mb_some e; obtain ⟨y, l2, g2, e2, e⟩ := e
  replace e := mb_some e; obtain ⟨k, l3, g3, e3, e⟩ := e
  replace e3 := mo_some e3; obtain ⟨e3, rfl, rfl⟩ := e3
  obtain ⟨z, e3, e4⟩ := Option.bind_eq_some_iff.mp e3
  cases asB_some e4
  refine ha _ _ _ _ _ s H S r A e1 h _ fun v1 H1 S1 r1 A1 m1 h1 d1 => hb _ _ _ _ _ s H1 S1 r1 A1 e2 h1 _ fun v2 H2 S2 r2 A2 m2 h2 d2 => ?_
  refine hr x y _ e3 v1 v2 S2 H2 _ h2.hs (Dp_mono d1 m2.s) d2 fun v S3 H3 g3 d3 => ?_
  cases d3
  refine ⟨k, rfl, ?_⟩
  have h3 := h2.grow g3
  have m3 := (m1.trans m2).trans (Mv.grow g3)
  cases k with
  | false =>
    obtain ⟨rfl, rfl, rfl⟩ := mp_some e
    exact q _ H3 S3 r2 A2 m3 h3 (.bl _)
  | true =>
    replace e := mb_some e; obtain ⟨w, l4, g4, e5, e⟩ := e
    replace e := mo_some e; obtain ⟨e, rfl, rfl⟩ := e
    refine hc _ _ _ _ _ s H3 S3 r2 A2 e5 h3 _ fun v4 H4 S4 r4 A4 m4 h4 d4 => ?_
    exact hr' y w d e v2 v4 S4 H4 Q h4.hs (Dp_mono d2 (g3.s.trans m4.s)) d4 fun v S5 H5 g5 d5 => q v H5 S5 r4 A4 ((m3.trans m4).trans (Mv.grow g5)) (h4.grow g5) d5
theorem s_test (ha : EvS K ta a) : EvT K (tTest ta) (bTest a) := fun l g d l' g' s H S r A e h Q q => by
  replace e := mb_some e; obtain ⟨x, l1, g1, e1, e⟩ := e
  replace e := mo_some e; obtain ⟨e, rfl, rfl⟩ := e
  cases asB_some e
  exact ha _ _ _ _ _ s H S r A e1 h _ fun v1 H1 S1 r1 A1 m1 h1 d1 => by cases d1; exact ⟨_, rfl, q H1 S1 r1 A1 m1 h1⟩
theorem s_B (ha : EvS K ta a) : EvT K (tB ta) (bTest a) := fun l g d l' g' s H S r A e h Q q => by
  replace e := mb_some e; obtain ⟨x, l1, g1, e1, e⟩ := e
  replace e := mo_some e; obtain ⟨e, rfl, rfl⟩ := e
  cases asB_some e
  exact ha _ _ _ _ _ s H S r A e1 h _ fun v1 H1 S1 r1 A1 m1 h1 d1 => by cases d1; exact ⟨_, rfl, q H1 S1 r1 A1 m1 h1⟩
theorem s_tru (ha : EvS K ta a) : EvT K (fun σ H Q => ta σ H fun x H' => ∃ k, TruV K x H' k ∧ Q k H') (bTru a) := fun l g d l' g' s H S r A e h Q q => by
  replace e := mb_some e; obtain ⟨x, l1, g1, e1, e⟩ := e
  replace e := mo_some e; obtain ⟨e, rfl, rfl⟩ := e
  exact ha _ _ _ _ _ s H S r A e1 h _ fun v1 H1 S1 r1 A1 m1 h1 d1 => ⟨_, truO_ok e h1.hs d1, q H1 S1 r1 A1 m1 h1⟩
theorem s_bnot (ht : EvT K tt t) : EvT K (tNot tt) (bNot t) := fun l g d l' g' s H S r A e h Q q => by
  replace e := mb_some e; obtain ⟨x, l1, g1, e1, e⟩ := e
  obtain ⟨rfl, rfl, rfl⟩ := mp_some e
  exact ht _ _ _ _ _ s H S r A e1 h _ fun H1 S1 r1 A1 m1 h1 => q H1 S1 r1 A1 m1 h1
theorem s_band (ht : EvT K tt t) (hu : EvT K tu u) : EvT K (tAnd tt tu) (bAnd t u) := fun l g d l' g' s H S r A e h Q q => by
  replace e := mb_some e; obtain ⟨x, l1, g1, e1, e⟩ := e
  refine ht _ _ _ _ _ s H S r A e1 h _ fun H1 S1 r1 A1 m1 h1 => ?_
  cases x with
  | true => exact hu _ _ _ _ _ s H1 S1 r1 A1 e h1 _ fun H2 S2 r2 A2 m2 h2 => q H2 S2 r2 A2 (m1.trans m2) h2
  | false =>
    obtain ⟨rfl, rfl, rfl⟩ := mp_some e
    exact q H1 S1 r1 A1 m1 h1
theorem s_bor (ht : EvT K tt t) (hu : EvT K tu u) : EvT K (tOr tt tu) (bOr t u) := fun l g d l' g' s H S r A e h Q q => by
  replace e := mb_some e; obtain ⟨x, l1, g1, e1, e⟩ := e
  refine ht _ _ _ _ _ s H S r A e1 h _ fun H1 S1 r1 A1 m1 h1 => ?_
  cases x with
  | false => exact hu _ _ _ _ _ s H1 S1 r1 A1 e h1 _ fun H2 S2 r2 A2 m2 h2 => q H2 S2 r2 A2 (m1.trans m2) h2
  | true =>
    obtain ⟨rfl, rfl, rfl⟩ := mp_some e
    exact q H1 S1 r1 A1 m1 h1
theorem s_yes : EvT K tYes bYes := fun l g d l' g' s H S r A e h Q q => by
  obtain ⟨rfl, rfl, rfl⟩ := mp_some e
  exact q H S r A (Mv.refl h.hs) h
theorem s_onone : EvO K tNoPart oNone := fun l g d l' g' s H S r A e h Q q => by
  obtain ⟨rfl, rfl, rfl⟩ := mp_some e
  exact q H S r A (Mv.refl h.hs) h
theorem s_osome (ha : EvS K ta a) : EvO K (tPart ta) (oSome a) := fun l g d l' g' s H S r A e h Q q => by
  replace e := mb_some e; obtain ⟨x, l1, g1, e1, e⟩ := e
  replace e := mb_some e; obtain ⟨y, l2, g2, e2, e⟩ := e
  replace e2 := mo_some e2; obtain ⟨e2, rfl, rfl⟩ := e2
  obtain ⟨rfl, rfl, rfl⟩ := mp_some e
  cases asI_some e2
  exact ha _ _ _ _ _ s H S r A e1 h _ fun v1 H1 S1 r1 A1 m1 h1 d1 => by cases d1; exact ⟨_, rfl, q H1 S1 r1 A1 m1 h1⟩
theorem s_sl {tl th : TO} {lo hi : M (Option Int)} (ha : EvS K ta a) (hl : EvO K tl lo) (hh : EvO K th hi) : EvS K (tSl (rSlAny K) ta tl th) (eSl a lo hi) := fun l g d l' g' s H S r A e h Q q => by
  replace e := mb_some e; obtain ⟨x, l1, g1, e1, e⟩ := e
  replace e := mb_some e; obtain ⟨y, l2, g2, e2, e⟩ := e
  replace e := mb_some e; obtain ⟨z, l3, g3, e3, e⟩ := e
  replace e := mo_some e; obtain ⟨e, rfl, rfl⟩ := e
  refine ha _ _ _ _ _ s H S r A e1 h _ fun v1 H1 S1 r1 A1 m1 h1 d1 => hl _ _ _ _ _ s H1 S1 r1 A1 e2 h1 _ fun H2 S2 r2 A2 m2 h2 => hh _ _ _ _ _ s H2 S2 r2 A2 e3 h2 _ fun H3 S3 r3 A3 m3 h3 => ?_
  have d3 := Dp_mono d1 (m2.s.trans m3.s)
  have m4 := (m1.trans m2).trans m3
  have fin : ∀ v S4 H4, Grow m0 S3 H3 S4 H4 → Dp K S4 v d → Q v H4 := fun v S4 H4 g4 d4 => q v H4 S4 r3 A3 (m4.trans (Mv.grow g4)) (h3.grow g4) d4
  unfold slD at e
  split at e
  · cases e
    cases d3 with
    | lst q1 q2 => exact .inl ⟨_, _, rfl, h3.hs.seq q1, new_lst h3.hs (cut_dp q2 y z) fin⟩
  · cases e
    rename_i ds
    cases d3 with
    | @tup a xs _ q1 q2 =>
      refine .inr ⟨_, _, rfl, same_seqT h3.hs q1, fun hw => fin _ S3 H3 (Grow.refl h3.hs) ?_, fun _ => new_tup h3.hs (cut_dp q2 y z) fin⟩
      have hl := DpAll_len q2
      rw [hl] at hw
      have ec : cutD ds y z = ds := by
        unfold cutD
        rw [hw.1, hw.2]
        simp
      rw [ec]
      exact .tup q1 q2
  · cases e
end
end Sm

namespace Sm
open PySem L2 RZ Dz

/-! ### lists that may change -/
def lsV (l : Lo) (g : Sg) (i : Nat) : Option (List PyData) := match l[i]? with
  | some (.own ds) => some ds
  | some (.ref j) => (match g[j]? with
    | some (.lst ds) => some ds
    | _ => none)
  | some (.dat (.list ds)) => some ds
  | _ => none
def lsM (l : Lo) (g : Sg) (i : Nat) : Option (List PyData) := match l[i]? with
  | some (.own ds) => some ds
  | some (.ref j) => (match g[j]? with
    | some (.lst ds) => some ds
    | _ => none)
  | _ => none
def ptV (l : Lo) (g : Sg) (i : Nat) (ds : List PyData) : Lo × Sg := match l[i]? with
  | some (.own _) => (l.set i (.own ds), g)
  | some (.ref j) => (l, g.set j (.lst ds))
  | _ => (l, g)
section
variable {K : PySem.W.Frag} {l : Lo} {g : Sg} {s : L2.St} {H S : Hp} {r : List Addr} {A : List (Option Addr)} {i : Nat} {ds : List PyData}
theorem rd_ls (h : StOk K l g s H S r A) (e : lsV l g i = some ds) : ∃ a xs, s[i]? = some (some (.ref a)) ∧ SqL K H a xs ∧ DpAll K S xs ds := by
  unfold lsV at e
  split at e
  · rename_i ds' hl
    cases e
    obtain ⟨o, v, e1, e2, a, rfl, rfl, e3, xs, e4, e5⟩ := h.ok i _ hl
    exact ⟨a, xs, e2, .inl (.inl e4), e5⟩
  · rename_i j hl
    obtain ⟨o, v, e1, e2, e3, a, e4, rfl⟩ := h.ok i _ hl
    split at e
    · rename_i ds' hj
      cases e
      obtain ⟨_, xs, q1, q2⟩ := h.st j a _ e4 hj
      exact ⟨a, xs, e2, .inl (.inl q1), q2⟩
    · cases e
  · rename_i ds' hl
    cases e
    obtain ⟨o, v, e1, e2, e3, w, rfl, e4⟩ := h.ok i _ hl
    cases e4 with
    | lst q1 q2 => exact ⟨_, _, e2, h.hs.seq q1, q2⟩
  · cases e
theorem wr_ls (h : StOk K l g s H S r A) (e : lsM l g i = some ds) : ∃ a xs, s[i]? = some (some (.ref a)) ∧ H a = some (.lst xs) ∧ DpAll K S xs ds ∧
    ∀ ys es, DpAll K S ys es → StOk K (ptV l g i es).1 (ptV l g i es).2 s (upd H a (.lst ys)) S r A ∧ Mv S H r A S (upd H a (.lst ys)) r A := by
  unfold lsM at e
  split at e
  · rename_i ds' hl
    cases e
    obtain ⟨o, v, e1, e2, a, rfl, rfl, e3, xs, e4, e5⟩ := h.ok i _ hl
    refine ⟨a, xs, e2, e4, e5, fun ys es hd => ?_⟩
    have : ptV l g i es = (l.set i (.own es), g) := by unfold ptV; rw [hl]
    rw [this]
    exact h.putO hl e1 e2 ⟨a, rfl, rfl, e3, ys, upd_same, hd⟩
  · rename_i j hl
    obtain ⟨o, v, e1, e2, e3, a, e4, rfl⟩ := h.ok i _ hl
    split at e
    · rename_i ds' hj
      cases e
      obtain ⟨_, xs, q1, q2⟩ := h.st j a _ e4 hj
      refine ⟨a, xs, e2, q1, q2, fun ys es hd => ?_⟩
      have : ptV l g i es = (l, g.set j (.lst es)) := by unfold ptV; rw [hl]
      rw [this]
      exact h.putR e4 ⟨ys, upd_same, hd⟩
    · cases e
  · cases e
end
def mg {α : Type} (f : Lo → Sg → Option α) : M α := fun l g => match f l g with
  | none => none
  | some a => some (a, l, g)
theorem mg_some {α : Type} {f : Lo → Sg → Option α} {l l' : Lo} {g g' : Sg} {a : α} (h : mg f l g = some (a, l', g')) : f l g = some a ∧ l' = l ∧ g' = g := by
  unfold mg at h
  split at h
  · cases h
  · rename_i a' e
    cases h
    exact ⟨e, rfl, rfl⟩
def eIxV (i : Nat) (b : M PyData) : M PyData := mb (mg fun l g => lsV l g i) fun _ => mb b fun y => mg fun l g => (lsV l g i).bind fun ds => (asI y).bind fun k => atI ds k
def eLenV (i : Nat) : M PyData := mg fun l g => (lsV l g i).map fun ds => .int ds.length
def bTruV (i : Nat) : M Bool := mg fun l g => (lsV l g i).map fun ds => !ds.isEmpty
def eSlV (i : Nat) (lo hi : M (Option Int)) : M PyData := mb (mg fun l g => lsV l g i) fun _ => mb lo fun x => mb hi fun y => mg fun l g => (lsV l g i).map fun ds => .list (cutD ds x y)
def eInV (neg : Bool) (a : M PyData) (i : Nat) : M PyData := mb a fun x => mg fun l g => (lsV l g i).bind fun ds => inFD neg x (.list ds)
def eTupleV (i : Nat) : M PyData := mg fun l g => (lsV l g i).map fun ds => .tuple ds
def lListV (i : Nat) : M (List PyData) := mg fun l g => lsV l g i
def popAtO (i : Nat) (y : PyData) : M PyData := fun l g => match lsM l g i, asI y with
  | some ds, some k => (match seqIndex? k ds.length with
    | some j => if k < 2 ^ 62 ∧ -(2 ^ 62) < k then (match ds[j]? with
      | some d => some (d, (ptV l g i (ds.eraseIdx j)).1, (ptV l g i (ds.eraseIdx j)).2)
      | none => none) else none
    | none => none)
  | _, _ => none
def ePopAt (i : Nat) (b : M PyData) : M PyData := mb (mg fun l g => lsM l g i) fun _ => mb b fun y => popAtO i y
def ePop (i : Nat) : M PyData := fun l g => match lsM l g i with
  | some ds => (match ds[ds.length - 1]? with
    | some d => some (d, (ptV l g i ds.dropLast).1, (ptV l g i ds.dropLast).2)
    | none => none)
  | none => none
section
variable {K : PySem.W.Frag} {ta tb te : TE} {a b : M PyData} {i : Nat}
theorem s_ixV (hb : EvS K tb b) : EvS K (tOp (rIx K) (tVar i) tb) (eIxV i b) := fun l g d l' g' s H S r A e h Q q => by
  replace e := mb_some e; obtain ⟨y0, l0, g0, e0, e⟩ := e
  replace e0 := mg_some e0; obtain ⟨e0, rfl, rfl⟩ := e0
  replace e := mb_some e; obtain ⟨y, l1, g1, e1, e⟩ := e
  replace e := mg_some e; obtain ⟨e, rfl, rfl⟩ := e
  replace e := Option.bind_eq_some_iff.mp e; obtain ⟨ds, e2, e⟩ := e
  replace e := Option.bind_eq_some_iff.mp e; obtain ⟨k, e3, e⟩ := e
  cases asI_some e3
  obtain ⟨a, xs, q1, _⟩ := rd_ls h e0
  refine ⟨_, q1, hb _ _ _ _ _ s H S r A e1 h _ fun v1 H1 S1 r1 A1 m1 h1 d1 => ?_⟩
  cases d1
  obtain ⟨a', xs, q2, q3, q4⟩ := rd_ls h1 e2
  rw [q1] at q2
  cases q2
  obtain ⟨w, hw, hdw⟩ := atI_map q4 e
  exact .inl ⟨a, xs, k, w, rfl, rfl, q3, hw, q w H1 S1 r1 A1 m1 h1 hdw⟩
theorem s_lenV : EvS K (tCB (rLenK K) (tCons (tVar i) tNil)) (eLenV i) := fun l g d l' g' s H S r A e h Q q => by
  replace e := mg_some e; obtain ⟨e, rfl, rfl⟩ := e
  obtain ⟨ds, e2, rfl⟩ := Option.map_eq_some_iff.mp e
  obtain ⟨a, xs, q1, q2, q3⟩ := rd_ls h e2
  exact ⟨_, q1, a, xs, rfl, .inl q2, q _ H S r A (Mv.refl h.hs) h (by rw [DpAll_len q3]; exact .int _)⟩
theorem s_truV : EvT K (fun σ H Q => tVar i σ H fun x H' => ∃ k, TruV K x H' k ∧ Q k H') (bTruV i) := fun l g d l' g' s H S r A e h Q q => by
  replace e := mg_some e; obtain ⟨e, rfl, rfl⟩ := e
  obtain ⟨ds, e2, rfl⟩ := Option.map_eq_some_iff.mp e
  obtain ⟨a, xs, q1, q2, q3⟩ := rd_ls h e2
  exact ⟨_, q1, _, .inl ⟨xs, q2, by rw [isEmpty_dp q3]⟩, q H S r A (Mv.refl h.hs) h⟩
theorem s_slV {tl th : TO} {lo hi : M (Option Int)} (hl : EvO K tl lo) (hh : EvO K th hi) : EvS K (tSl (rSlAny K) (tVar i) tl th) (eSlV i lo hi) := fun l g d l' g' s H S r A e h Q q => by
  replace e := mb_some e; obtain ⟨y0, l0, g0, e0, e⟩ := e
  replace e0 := mg_some e0; obtain ⟨e0, rfl, rfl⟩ := e0
  replace e := mb_some e; obtain ⟨y, l1, g1, e1, e⟩ := e
  replace e := mb_some e; obtain ⟨z, l2, g2, e2, e⟩ := e
  replace e := mg_some e; obtain ⟨e, rfl, rfl⟩ := e
  obtain ⟨ds, e3, rfl⟩ := Option.map_eq_some_iff.mp e
  obtain ⟨a, xs, q1, _⟩ := rd_ls h e0
  refine ⟨_, q1, hl _ _ _ _ _ s H S r A e1 h _ fun H1 S1 r1 A1 m1 h1 => hh _ _ _ _ _ s H1 S1 r1 A1 e2 h1 _ fun H2 S2 r2 A2 m2 h2 => ?_⟩
  obtain ⟨a', xs, q2, q3, q4⟩ := rd_ls h2 e3
  rw [q1] at q2
  cases q2
  exact .inl ⟨a, xs, rfl, q3, new_lst h2.hs (cut_dp q4 y z) fun v S4 H4 g4 d4 => q v H4 S4 r2 A2 ((m1.trans m2).trans (Mv.grow g4)) (h2.grow g4) d4⟩
theorem s_inV {neg : Bool} (ha : EvS K ta a) : EvS K (tOp (rIn K neg) ta (tVar i)) (eInV neg a i) := fun l g d l' g' s H S r A e h Q q => by
  replace e := mb_some e; obtain ⟨y, l1, g1, e1, e⟩ := e
  replace e := mg_some e; obtain ⟨e, rfl, rfl⟩ := e
  replace e := Option.bind_eq_some_iff.mp e; obtain ⟨ds, e3, e⟩ := e
  refine ha _ _ _ _ _ s H S r A e1 h _ fun v1 H1 S1 r1 A1 m1 h1 d1 => ?_
  obtain ⟨a', xs, q2, q3, q4⟩ := rd_ls h1 e3
  unfold inFD at e
  split at e
  · rename_i hf
    simp only at e
    split at e
    · rename_i hq
      cases e
      refine ⟨_, q2, a', xs, rfl, .inl q3, flat_dp d1 hf, flats_dp q4 hq, ?_⟩
      rw [in_dp d1 hf q4 hq]
      exact q _ H1 S1 r1 A1 m1 h1 (.bl _)
    · cases e
  · cases e
theorem s_tupleV : EvS K (tCB (rTupleK K) (tCons (tVar i) tNil)) (eTupleV i) := fun l g d l' g' s H S r A e h Q q => by
  replace e := mg_some e; obtain ⟨e, rfl, rfl⟩ := e
  obtain ⟨ds, e2, rfl⟩ := Option.map_eq_some_iff.mp e
  obtain ⟨a, xs, q1, q2, q3⟩ := rd_ls h e2
  exact ⟨_, q1, a, xs, rfl, .inl ⟨q2, new_tup h.hs q3 fun v S4 H4 g4 d4 => q v H4 S4 r A (Mv.grow g4) (h.grow g4) d4⟩⟩
theorem s_listV : EvL K (tCB (rListK K) (tCons (tVar i) tNil)) (lListV i) := fun l g d l' g' s H S r A e h Q q => by
  replace e := mg_some e; obtain ⟨e2, rfl, rfl⟩ := e
  obtain ⟨a, xs, q1, q2, q3⟩ := rd_ls h e2
  exact ⟨_, q1, a, xs, rfl, .inl q2, new_l (Mv.refl h.hs) h q3 q⟩
theorem s_popAt (hb : EvS K tb b) : EvS K (tBM K "list" rPopAt (tVar i) (tCons tb tNil)) (ePopAt i b) := fun l g d l' g' s H S r A e h Q q => by
  replace e := mb_some e; obtain ⟨y0, l0, g0, e0, e⟩ := e
  replace e0 := mg_some e0; obtain ⟨e0, rfl, rfl⟩ := e0
  replace e := mb_some e; obtain ⟨y, l1, g1, e1, e⟩ := e
  obtain ⟨a, xs, q1, q2, q3, _⟩ := wr_ls h e0
  refine ⟨_, q1, .inl ⟨rfl, xs, .inl (.inl q2)⟩, hb _ _ _ _ _ s H S r A e1 h _ fun v1 H1 S1 r1 A1 m1 h1 d1 => ?_⟩
  unfold popAtO at e
  split at e
  · rename_i ds k hm hk
    cases asI_some hk
    cases d1
    split at e
    · rename_i j hj
      split at e
      · rename_i hz
        split at e
        · rename_i d' hd'
          cases e
          obtain ⟨a', xs, q4, q5, q6, q7⟩ := wr_ls h1 hm
          rw [q1] at q4
          cases q4
          obtain ⟨w, hw, hdw⟩ := DpAll_get q6 hd'
          obtain ⟨z1, z2⟩ := q7 _ _ (DpAll_erase j q6)
          exact ⟨a, xs, k, j, w, rfl, rfl, q5, by omega, by omega, by rw [DpAll_len q6]; exact hj, hw, q w _ S1 r1 A1 (m1.trans z2) z1 hdw⟩
        · cases e
      · cases e
    · cases e
  · cases e
theorem s_pop : EvS K (tBM0 K "list" rPop (tVar i)) (ePop i) := fun l g d l' g' s H S r A e h Q q => by
  unfold ePop at e
  split at e
  · rename_i ds hm
    split at e
    · rename_i d' hd'
      cases e
      obtain ⟨a', xs, q4, q5, q6, q7⟩ := wr_ls h hm
      obtain ⟨w, hw, hdw⟩ := DpAll_get q6 hd'
      have hdl : DpAll K S xs.dropLast ds.dropLast := by
        rw [List.dropLast_eq_take, List.dropLast_eq_take, DpAll_len q6]
        exact DpAll_take _ q6
      obtain ⟨z1, z2⟩ := q7 _ _ hdl
      exact ⟨_, q4, .inl ⟨rfl, xs, .inl (.inl q5)⟩, a', xs, w, rfl, rfl, q5, by rw [DpAll_len q6]; exact hw, q w _ S r A z2 z1 hdw⟩
    · cases e
  · cases e
end

/-! ### walks -/
def seqD : PyData → Option (List PyData)
  | .list ds => some ds
  | .tuple ds => some ds
  | _ => none
def rgO (n : Int) : Bool := decide (n ≤ 100000) && decide (-100000 ≤ n)
def iSq (a : M PyData) : M (List PyData) := mb a fun x => mo (seqD x)
def iRg1 (a : M PyData) : M (List PyData) := mb a fun x => mo ((asI x).bind fun n => if rgO n = true then some (rng 0 n.toNat) else none)
def iRg2 (a b : M PyData) : M (List PyData) := mb a fun x => mb b fun y => mo ((asI x).bind fun m => (asI y).bind fun n => if rgO m = true ∧ rgO n = true then some (rng m (n - m).toNat) else none)
def iEn (a : M PyData) : M (List PyData) := mb a fun x => mo (match x with
  | .list ds => some (enumD ds)
  | _ => none)
def iZp (a b : M PyData) : M (List PyData) := mb a fun x => mb b fun y => mo (match x, y with
  | .list ds, .list es => some (zipD ds es)
  | .tuple ds, .tuple es => some (zipD ds es)
  | _, _ => none)
def lListRg (a : M PyData) : M (List PyData) := mb a fun x => mo ((asI x).bind fun n => if rgO n = true then some (rng 0 n.toNat) else none)
def lListRg2 (a b : M PyData) : M (List PyData) := mb a fun x => mb b fun y => mo ((asI x).bind fun m => (asI y).bind fun n => if rgO m = true ∧ rgO n = true then some (rng m (n - m).toNat) else none)
def lList (a : M PyData) : M (List PyData) := mb a fun x => mo (seqD x)
def lRep (a : M (List PyData)) (b : M PyData) : M (List PyData) := mb a fun xs => mb b fun y => mo ((asI y).bind fun k => if (decide (k ≤ 1000) && decide (-1000 ≤ k) && decide (xs.length ≤ 100)) = true then some (List.replicate k.toNat xs).flatten else none)
section
variable {K : PySem.W.Frag} {ta tb te : TE} {a b : M PyData} {i : Nat}
theorem s_iseq (ha : EvS K ta a) : EvI K (iSeq K ta) (iSq a) := fun l g d l' g' s H S r A e h Q q => by
  replace e := mb_some e; obtain ⟨x, l1, g1, e1, e⟩ := e
  replace e := mo_some e; obtain ⟨e, rfl, rfl⟩ := e
  unfold seqD at e
  split at e
  · cases e
    exact .inl (ha _ _ _ _ _ s H S r A e1 h _ fun v1 H1 S1 r1 A1 m1 h1 d1 => by
      cases d1 with
      | lst h3 h4 => exact ⟨_, rfl, ⟨_, h1.hs.seq h3⟩, q _ H1 S1 r1 A1 m1 h1 (walkL h3 h4)⟩)
  · cases e
    exact .inr (ha _ _ _ _ _ s H S r A e1 h _ fun v1 H1 S1 r1 A1 m1 h1 d1 => by
      cases d1 with
      | tup h3 h4 => exact ⟨_, rfl, ⟨_, same_seqT h1.hs h3⟩, q _ H1 S1 r1 A1 m1 h1 (walkT h3 h4)⟩)
  · cases e
theorem rgO_ok {n : Int} (h : rgO n = true) : n ≤ 100000 ∧ -100000 ≤ n := by
  unfold rgO at h
  simpa using h
theorem s_irg1 (ha : EvS K ta a) : EvI K (iRng1 (tCons ta tNil)) (iRg1 a) := fun l g d l' g' s H S r A e h Q q => by
  replace e := mb_some e; obtain ⟨x, l1, g1, e1, e⟩ := e
  replace e := mo_some e; obtain ⟨e, rfl, rfl⟩ := e
  replace e := Option.bind_eq_some_iff.mp e; obtain ⟨n, e2, e⟩ := e
  cases asI_some e2
  split at e
  · rename_i hz
    have hz := rgO_ok hz
    cases e
    refine ha _ _ _ _ _ s H S r A e1 h _ fun v1 H1 S1 r1 A1 m1 h1 d1 => ?_
    cases d1
    exact ⟨n, rfl, by omega, by omega, q _ H1 S1 r1 A1 m1 h1 walkR⟩
  · cases e
theorem s_irg2 (ha : EvS K ta a) (hb : EvS K tb b) : EvI K (iRng2 (tCons ta (tCons tb tNil))) (iRg2 a b) := fun l g d l' g' s H S r A e h Q q => by
  replace e := mb_some e; obtain ⟨x, l1, g1, e1, e⟩ := e
  replace e := mb_some e; obtain ⟨y, l2, g2, e2, e⟩ := e
  replace e := mo_some e; obtain ⟨e, rfl, rfl⟩ := e
  replace e := Option.bind_eq_some_iff.mp e; obtain ⟨m, e3, e⟩ := e
  replace e := Option.bind_eq_some_iff.mp e; obtain ⟨n, e4, e⟩ := e
  cases asI_some e3
  cases asI_some e4
  split at e
  · rename_i hz
    have hz1 := rgO_ok hz.1
    have hz2 := rgO_ok hz.2
    cases e
    refine ha _ _ _ _ _ s H S r A e1 h _ fun v1 H1 S1 r1 A1 m1 h1 d1 => hb _ _ _ _ _ s H1 S1 r1 A1 e2 h1 _ fun v2 H2 S2 r2 A2 m2 h2 d2 => ?_
    cases d1
    cases d2
    exact ⟨m, n, rfl, ⟨by omega, by omega, by omega, by omega⟩, q _ H2 S2 r2 A2 (m1.trans m2) h2 walkR⟩
  · cases e
theorem s_ienum (ha : EvS K ta a) : EvI K (iEnum K (tCons ta tNil)) (iEn a) := fun l g d l' g' s H S r A e h Q q => by
  replace e := mb_some e; obtain ⟨x, l1, g1, e1, e⟩ := e
  replace e := mo_some e; obtain ⟨e, rfl, rfl⟩ := e
  split at e
  · cases e
    refine ha _ _ _ _ _ s H S r A e1 h _ fun v1 H1 S1 r1 A1 m1 h1 d1 => ?_
    cases d1 with
    | lst h3 h4 => exact ⟨_, _, rfl, h1.hs.seq h3, q _ H1 S1 r1 A1 m1 h1 (walkE h3 h4)⟩
  · cases e
theorem s_izip (ha : EvS K ta a) (hb : EvS K tb b) : EvI K (iZipA K (tCons ta (tCons tb tNil))) (iZp a b) := fun l g d l' g' s H S r A e h Q q => by
  replace e := mb_some e; obtain ⟨x, l1, g1, e1, e⟩ := e
  replace e := mb_some e; obtain ⟨y, l2, g2, e2, e⟩ := e
  replace e := mo_some e; obtain ⟨e, rfl, rfl⟩ := e
  refine ha _ _ _ _ _ s H S r A e1 h _ fun v1 H1 S1 r1 A1 m1 h1 d1 => hb _ _ _ _ _ s H1 S1 r1 A1 e2 h1 _ fun v2 H2 S2 r2 A2 m2 h2 d2 => ?_
  have d1 := Dp_mono d1 m2.s
  split at e
  · cases e
    cases d1 with
    | lst h3 h4 =>
      cases d2 with
      | lst h5 h6 => exact ⟨_, _, _, _, rfl, .inl ⟨h2.hs.seq h3, h2.hs.seq h5, q _ H2 S2 r2 A2 (m1.trans m2) h2 (walkZL h3 h4 h5 h6)⟩⟩
  · cases e
    cases d1 with
    | tup h3 h4 =>
      cases d2 with
      | tup h5 h6 => exact ⟨_, _, _, _, rfl, .inr ⟨same_seqT h2.hs h3, same_seqT h2.hs h5, q _ H2 S2 r2 A2 (m1.trans m2) h2 (walkZT h3 h4 h5 h6)⟩⟩
  · cases e
theorem s_listRg (ha : EvS K ta a) : EvL K (tLstRg (tRg1 ta)) (lListRg a) := fun l g d l' g' s H S r A e h Q q => by
  replace e := mb_some e; obtain ⟨x, l1, g1, e1, e⟩ := e
  replace e := mo_some e; obtain ⟨e, rfl, rfl⟩ := e
  replace e := Option.bind_eq_some_iff.mp e; obtain ⟨n, e2, e⟩ := e
  cases asI_some e2
  split at e
  · rename_i hz
    have hz := rgO_ok hz
    cases e
    refine ha _ _ _ _ _ s H S r A e1 h _ fun v1 H1 S1 r1 A1 m1 h1 d1 => ?_
    cases d1
    refine ⟨n, rfl, ⟨by omega, by omega, by omega, by omega, by omega⟩, new_l m1 h1 ?_ q⟩
    have := rgV_dp (K := K) (S := S1) 0 n
    rwa [Int.sub_zero] at this
  · cases e
theorem s_listRg2 (ha : EvS K ta a) (hb : EvS K tb b) : EvL K (tLstRg (tRg2 ta tb)) (lListRg2 a b) := fun l g d l' g' s H S r A e h Q q => by
  replace e := mb_some e; obtain ⟨x, l1, g1, e1, e⟩ := e
  replace e := mb_some e; obtain ⟨y, l2, g2, e2, e⟩ := e
  replace e := mo_some e; obtain ⟨e, rfl, rfl⟩ := e
  replace e := Option.bind_eq_some_iff.mp e; obtain ⟨m, e3, e⟩ := e
  replace e := Option.bind_eq_some_iff.mp e; obtain ⟨n, e4, e⟩ := e
  cases asI_some e3
  cases asI_some e4
  split at e
  · rename_i hz
    have hz1 := rgO_ok hz.1
    have hz2 := rgO_ok hz.2
    cases e
    refine ha _ _ _ _ _ s H S r A e1 h _ fun v1 H1 S1 r1 A1 m1 h1 d1 => hb _ _ _ _ _ s H1 S1 r1 A1 e2 h1 _ fun v2 H2 S2 r2 A2 m2 h2 d2 => ?_
    cases d1
    cases d2
    exact ⟨m, n, rfl, rfl, ⟨by omega, by omega, by omega, by omega, by omega⟩, new_l (m1.trans m2) h2 (rgV_dp (K := K) (S := S2) m n) q⟩
  · cases e
theorem s_list (ha : EvS K ta a) : EvL K (tCB (rListK K) (tCons ta tNil)) (lList a) := fun l g d l' g' s H S r A e h Q q => by
  replace e := mb_some e; obtain ⟨x, l1, g1, e1, e⟩ := e
  replace e := mo_some e; obtain ⟨e, rfl, rfl⟩ := e
  refine ha _ _ _ _ _ s H S r A e1 h _ fun v1 H1 S1 r1 A1 m1 h1 d1 => ?_
  unfold seqD at e
  split at e
  · cases e
    cases d1 with
    | lst h3 h4 => exact ⟨_, _, rfl, .inl (h1.hs.seq h3), new_l m1 h1 h4 q⟩
  · cases e
    cases d1 with
    | tup h3 h4 => exact ⟨_, _, rfl, .inr (same_seqT h1.hs h3), new_l m1 h1 h4 q⟩
  · cases e
theorem s_rep {tr : TA} {m : M (List PyData)} (ha : EvA K tr m) (hb : EvS K tb b) : EvL K (tOp rTimes (tLst tr) tb) (lRep m b) := fun l g d l' g' s H S r A e h Q q => by
  replace e := mb_some e; obtain ⟨ds, l1, g1, e1, e⟩ := e
  replace e := mb_some e; obtain ⟨y, l2, g2, e2, e⟩ := e
  replace e := mo_some e; obtain ⟨e, rfl, rfl⟩ := e
  replace e := Option.bind_eq_some_iff.mp e; obtain ⟨k, e3, e⟩ := e
  cases asI_some e3
  split at e
  · rename_i hz
    simp only [Bool.and_eq_true, decide_eq_true_eq] at hz
    obtain ⟨⟨hz1, hz2⟩, hz3⟩ := hz
    cases e
    refine ha _ _ _ _ _ s H S r A e1 h _ fun xs H1 S1 r1 A1 m1 h1 d1 => ⟨szl (by rw [DpAll_len d1]; omega), fun p hp => ?_⟩
    have gp : Grow m0 S1 H1 (upd S1 p (.lst xs)) (upd H1 p (.lst xs)) := Grow.new h1.hs hp
    refine hb _ _ _ _ _ s _ _ r1 A1 e2 (h1.grow gp) _ fun v2 H2 S2 r2 A2 m2 h2 d2 => ?_
    cases d2
    have hl := DpAll_len d1
    have hp2 : H2 p = some (.lst xs) := m2.h p _ (m2.s p _ upd_same)
    refine .inr ⟨p, k, xs, rfl, rfl, hp2, by omega, by omega, ?_, ?_⟩
    · refine szl (Nat.le_trans (Nat.mul_le_mul (show xs.length ≤ 100 by omega) (show k.toNat ≤ 1000 by omega)) (by decide))
    · have hrep : ∀ n : Nat, DpAll K S2 (List.replicate n xs).flatten (List.replicate n ds).flatten := fun n => by
        induction n with
        | zero => exact .nil
        | succ n ih =>
          rw [List.replicate_succ, List.replicate_succ, List.flatten_cons, List.flatten_cons]
          exact DpAll_app (DpAll_mono d1 (gp.s.trans m2.s)) ih
      exact new_l ((m1.trans (Mv.grow gp)).trans m2) h2 (hrep _) q
  · cases e
end
end Sm

namespace Sm
open PySem L2 RZ Dz

/-! ### targets -/
abbrev G := PyData → Lo → Option Lo
abbrev Gs := List PyData → Lo → Option Lo
def gNm (i : Nat) : G := fun d l => some (l.set i (.dat d))
def gTp (n : Nat) (gs : Gs) : G := fun d l => match d with
  | .tuple ds => if ds.length = n then gs ds l else none
  | _ => none
def gSt (n i : Nat) (gs : Gs) : G := fun d l => match seqD d with
  | some ds => if n ≤ ds.length + 1 ∧ ds.length ≤ 16384 then gs (ds.take i ++ [.list ((ds.drop i).take (ds.length + 1 - n))] ++ (ds.drop i).drop (ds.length + 1 - n)) l else none
  | none => none
def gsNil : Gs := fun ds l => match ds with
  | [] => some l
  | _ => none
def gsCons (g : G) (gs : Gs) : Gs := fun ds l => match ds with
  | [] => none
  | d :: r => (g d l).bind fun l1 => gs r l1
def BdS (K : PySem.W.Frag) (tg : TG) (G : G) : Prop := ∀ l g d l' s H S r A v (Q : L2.St → Hp → Prop), G d l = some l' → StOk K l g s H S r A → Dp K S v d → (∀ s' H' S' A', Mv S H r A S' H' r A' → StOk K l' g s' H' S' r A' → Q s' H') → tg v s H Q
def BdsS (K : PySem.W.Frag) (tg : TGs) (G : Gs) : Prop := ∀ l g d l' s H S r A v (Q : L2.St → Hp → Prop), G d l = some l' → StOk K l g s H S r A → DpAll K S v d → (∀ s' H' S' A', Mv S H r A S' H' r A' → StOk K l' g s' H' S' r A' → Q s' H') → tg v s H Q
section
variable {K : PySem.W.Frag}
theorem b_name {i : Nat} : BdS K (gName i) (gNm i) := fun l g d l' s H S r A v Q e h hd q => by
  cases e
  exact q _ H S _ (Mv.refl h.hs).set (h.set ⟨rfl, v, rfl, hd⟩)
theorem bs_nil : BdsS K gNil gsNil := fun l g d l' s H S r A v Q e h hd q => by
  unfold gsNil at e
  split at e
  · cases e
    cases hd
    exact ⟨rfl, q _ H S A (Mv.refl h.hs) h⟩
  · cases e
theorem bs_cons {tg : TG} {tgs : TGs} {g : G} {gs : Gs} (h1 : BdS K tg g) (h2 : BdsS K tgs gs) : BdsS K (gCons tg tgs) (gsCons g gs) := fun l g d l' s H S r A v Q e h hd q => by
  unfold gsCons at e
  split at e
  · cases e
  · obtain ⟨l1, e1, e2⟩ := Option.bind_eq_some_iff.mp e
    cases hd with
    | cons a b => exact ⟨_, _, rfl, h1 _ _ _ _ _ _ _ _ _ _ _ e1 h a fun s1 H1 S1 A1 m1 h1 => h2 _ _ _ _ _ _ _ _ _ _ _ e2 h1 (DpAll_mono b m1.s) fun s2 H2 S2 A2 m2 h2 => q _ _ _ _ (m1.trans m2) h2⟩
theorem b_tup {tgs : TGs} {gs : Gs} {n : Nat} (h1 : BdsS K tgs gs) : BdS K (gTup K n tgs) (gTp n gs) := fun l g d l' s H S r A v Q e h hd q => by
  unfold gTp at e
  split at e
  · split at e
    · cases hd with
      | tup a b => exact ⟨_, _, rfl, same_seqT h.hs a, (DpAll_len b).trans (by assumption), h1 _ _ _ _ _ _ _ _ _ _ _ e h b q⟩
    · cases e
  · cases e
theorem b_star {tgs : TGs} {gs : Gs} {n i : Nat} (h1 : BdsS K tgs gs) : BdS K (gStar K n i tgs) (gSt n i gs) := fun l g d l' s H S r A v Q e h hd q => by
  unfold gSt at e
  split at e
  · rename_i ds hq
    split at e
    · rename_i hz
      have key : ∀ xs, DpAll K S xs ds → ∀ p, H p = none → tgs (xs.take i ++ [.ref p] ++ (xs.drop i).drop (xs.length + 1 - n)) s (upd H p (.lst ((xs.drop i).take (xs.length + 1 - n)))) Q := fun xs hd p hp => by
        have g2 : Grow m0 S H (upd S p (.lst ((xs.drop i).take (xs.length + 1 - n)))) (upd H p (.lst ((xs.drop i).take (xs.length + 1 - n)))) := Grow.new h.hs hp
        have hl := DpAll_len hd
        have d2 := DpAll_mono hd g2.s
        refine h1 _ _ _ _ s _ _ r A _ Q e (h.grow g2) ?_ fun s2 H2 S2 A2 m2 h2 => q _ _ _ _ ((Mv.grow g2).trans m2) h2
        rw [← hl]
        exact DpAll_app (DpAll_app (DpAll_take i d2) (.cons (.lst (.inl (.inl upd_same)) (DpAll_take _ (DpAll_drop i d2))) .nil)) (DpAll_drop _ (DpAll_drop i d2))
      unfold seqD at hq
      split at hq
      · cases hq
        cases hd with
        | lst a b =>
          have hl := DpAll_len b
          exact ⟨_, _, rfl, .inl (h.hs.seq a), by omega, by omega, fun p hp => key _ b p hp⟩
      · cases hq
        cases hd with
        | tup a b =>
          have hl := DpAll_len b
          exact ⟨_, _, rfl, .inr (same_seqT h.hs a), by omega, by omega, fun p hp => key _ b p hp⟩
      · cases hq
    · cases e
  · cases e
end

/-! ### comprehensions -/
def plainV : Vl → Bool
  | .own _ => false
  | .dct _ => false
  | _ => true
def wipeV (l : Lo) : List Nat → Lo
  | [] => l
  | v :: vs => (wipeV l vs).set v .no
def backV (l0 l : Lo) : List Nat → Lo
  | [] => l
  | v :: vs => (backV l0 l vs).set v (l0.getD v .no)
def lcL (vs : List Nat) (tg : G) (t : M Bool) (e : M PyData) : List PyData → M (List PyData)
  | [] => mp []
  | d :: ds => fun l g => match tg d (wipeV l vs) with
    | none => none
    | some l1 => match t l1 g with
      | none => none
      | some (true, l2, g2) => (match e l2 g2 with
        | none => none
        | some (y, l3, g3) => mb (lcL vs tg t e ds) (fun ys => mp (y :: ys)) (backV l l3 vs) g3)
      | some (false, l2, g2) => lcL vs tg t e ds (backV l l2 vs) g2
def plainAt (vs : List Nat) (l : Lo) : Bool := vs.all fun v => plainV (l.getD v .no)
def lLc (vs : List Nat) (it : M (List PyData)) (tg : G) (t : M Bool) (e : M PyData) : M (List PyData) := mb it fun ds => fun l g => if (plainAt vs l && decide (ds.length ≤ 100000)) = true then lcL vs tg t e ds l g else none
theorem wipeV_len (l : Lo) : ∀ vs, (wipeV l vs).length = l.length
  | [] => rfl
  | v :: vs => by show ((wipeV l vs).set v .no).length = _; rw [List.length_set, wipeV_len l vs]
theorem backV_len (l0 l : Lo) : ∀ vs, (backV l0 l vs).length = l.length
  | [] => rfl
  | v :: vs => by show ((backV l0 l vs).set v _).length = _; rw [List.length_set, backV_len l0 l vs]
theorem wipeV_get {l : Lo} {j : Nat} : ∀ {vs : List Nat}, (wipeV l vs)[j]? = if j ∈ vs then (if j < l.length then some .no else none) else l[j]?
  | [] => by simp [wipeV]
  | v :: vs => by
    show ((wipeV l vs).set v .no)[j]? = _
    rw [List.getElem?_set]
    by_cases h : v = j
    · subst h
      rw [if_pos rfl, wipeV_len, if_pos List.mem_cons_self]
    · rw [if_neg h, wipeV_get]
      have : (j ∈ v :: vs) ↔ j ∈ vs := by
        rw [List.mem_cons]
        exact ⟨fun z => z.elim (fun q => absurd q.symm h) id, .inr⟩
      by_cases hj : j ∈ vs
      · rw [if_pos hj, if_pos (this.mpr hj)]
      · rw [if_neg hj, if_neg fun z => hj (this.mp z)]
theorem backV_get {l0 l : Lo} {j : Nat} : ∀ {vs : List Nat}, (backV l0 l vs)[j]? = if j ∈ vs then (if j < l.length then some (l0.getD j .no) else none) else l[j]?
  | [] => by simp [backV]
  | v :: vs => by
    show ((backV l0 l vs).set v (l0.getD v .no))[j]? = _
    rw [List.getElem?_set]
    by_cases h : v = j
    · subst h
      rw [if_pos rfl, backV_len, if_pos List.mem_cons_self]
    · rw [if_neg h, backV_get]
      have : (j ∈ v :: vs) ↔ j ∈ vs := by
        rw [List.mem_cons]
        exact ⟨fun z => z.elim (fun q => absurd q.symm h) id, .inr⟩
      by_cases hj : j ∈ vs
      · rw [if_pos hj, if_pos (this.mpr hj)]
      · rw [if_neg hj, if_neg fun z => hj (this.mp z)]
section
variable {K : PySem.W.Frag} {l l' : Lo} {g g' : Sg} {s s' : L2.St} {H S H1 S1 : Hp} {r r1 : List Addr} {A A1 : List (Option Addr)} {vs : List Nat}
theorem plainAt_of (h : plainAt vs l = true) {v : Nat} (hv : v ∈ vs) {x : Vl} (hx : l[v]? = some x) : plainV x = true := by
  unfold plainAt at h
  have := List.all_eq_true.mp h v hv
  rw [List.getD_eq_getElem?_getD, hx] at this
  exact this
/-- the addresses with those of some slots left out -/
def cutA (A : List (Option Addr)) : List Nat → List (Option Addr)
  | [] => A
  | v :: vs => (cutA A vs).set v none
theorem cutA_len (A : List (Option Addr)) : ∀ vs, (cutA A vs).length = A.length
  | [] => rfl
  | v :: vs => by show ((cutA A vs).set v none).length = _; rw [List.length_set, cutA_len A vs]
theorem cutA_get {A : List (Option Addr)} {j : Nat} : ∀ {vs : List Nat}, (cutA A vs)[j]? = if j ∈ vs then (if j < A.length then some none else none) else A[j]?
  | [] => by simp [cutA]
  | v :: vs => by
    show ((cutA A vs).set v none)[j]? = _
    rw [List.getElem?_set]
    by_cases h : v = j
    · subst h
      rw [if_pos rfl, cutA_len, if_pos List.mem_cons_self]
    · rw [if_neg h, cutA_get]
      have : (j ∈ v :: vs) ↔ j ∈ vs := by
        rw [List.mem_cons]
        exact ⟨fun z => z.elim (fun q => absurd q.symm h) id, .inr⟩
      by_cases hj : j ∈ vs
      · rw [if_pos hj, if_pos (this.mpr hj)]
      · rw [if_neg hj, if_neg fun z => hj (this.mp z)]
theorem cutA_some {A : List (Option Addr)} {j : Nat} {a : Addr} {vs : List Nat} (h : (cutA A vs)[j]? = some (some a)) : A[j]? = some (some a) := by
  rw [cutA_get] at h
  split at h
  · split at h <;> cases h
  · exact h
theorem cutA_mem {A : List (Option Addr)} {a : Addr} {vs : List Nat} (h : some a ∈ cutA A vs) : some a ∈ A := by
  obtain ⟨j, hj⟩ := List.mem_iff_getElem?.mp h
  exact List.mem_of_getElem? (cutA_some hj)
theorem trcut {a : Addr} (h : tr (cutA A vs) r a) : tr A r a := h.elim (fun q => .inl (cutA_mem q)) .inr
theorem Mv.cut (h : Mv S H r A S1 H1 r1 A1) : Mv S H r A S1 H1 r1 (cutA A1 vs) := ⟨h.s, h.h, h.n, h.k, h.d, h.p, fun a z => h.f a (trcut z)⟩
theorem StOk.wipe (h : StOk K l g s H S r A) : StOk K (wipeV l vs) g (L2.wipe s vs) H S r (cutA A vs) :=
  ⟨h.hs, by rw [cutA_len, wipeV_len]; exact h.la, by rw [wipe_length, wipeV_len]; exact h.ls, fun j x e => by
    rw [wipeV_get] at e
    rw [cutA_get, wipe_get]
    by_cases hj : j ∈ vs
    · rw [if_pos hj] at e ⊢
      rw [if_pos hj]
      split at e
      · rename_i hl
        cases e
        exact ⟨none, none, by rw [if_pos (by rw [h.la]; exact hl)], by rw [if_pos (by rw [h.ls]; exact hl)], rfl⟩
      · cases e
    · rw [if_neg hj] at e ⊢
      rw [if_neg hj]
      exact h.ok j x e, fun i j a e1 e2 => h.ij i j a (cutA_some e1) (cutA_some e2), fun a ha => h.dr a (cutA_mem ha), h.rn, h.lg, h.st⟩
/-- behind a turn: the comprehension's own names are as they were -/
theorem StOk.back (h : StOk K l g s H S r A) (hp : plainAt vs l = true) (h1 : StOk K l' g' s' H1 S1 r1 A1) (hw : L2.wipe s' vs = L2.wipe s vs) (hll : l'.length = l.length) (hs : Same S S1) (hr : ∃ q, r1 = r ++ q) : StOk K (backV l l' vs) g' s H1 S1 r1 (cutA A1 vs) :=
  ⟨h1.hs, by rw [cutA_len, backV_len]; exact h1.la, by rw [backV_len, hll]; exact h.ls, fun j x e => by
    rw [backV_get] at e
    rw [cutA_get]
    by_cases hj : j ∈ vs
    · rw [if_pos hj] at e ⊢
      split at e
      · rename_i hl
        have hl0 : j < l.length := by rw [← hll]; exact hl
        have hx : l[j]? = some x := by
          rw [List.getD_eq_getElem?_getD, List.getElem?_eq_getElem hl0] at e
          rw [List.getElem?_eq_getElem hl0]
          exact e
        obtain ⟨o, v, q1, q2, q3⟩ := h.ok j x hx
        have po : o = none := by
          have := plainAt_of hp hj hx
          cases x with
          | no => exact q3
          | dat d => exact q3.1
          | own ds => cases this
          | dct ds => cases this
          | ref k => exact q3.1
        subst po
        exact ⟨none, v, by rw [if_pos (by rw [h1.la]; exact hl)], q2, q3.go hs (fun a z => by cases z) hr⟩
      · cases e
    · rw [if_neg hj] at e ⊢
      obtain ⟨o, v, q1, q2, q3⟩ := h1.ok j x e
      refine ⟨o, v, q1, ?_, q3⟩
      have hg := congrArg (fun (z : L2.St) => z[j]?) hw
      simp only [wipe_get] at hg
      rw [if_neg hj, if_neg hj] at hg
      rw [← hg]
      exact q2, fun i j a e1 e2 => h1.ij i j a (cutA_some e1) (cutA_some e2), fun a ha => h1.dr a (cutA_mem ha), h1.rn, h1.lg, h1.st⟩
end
theorem lcL_step {vs : List Nat} {tg : G} {t : M Bool} {e : M PyData} {d : PyData} {ds ys : List PyData} {l l' : Lo} {g g' : Sg} (h : lcL vs tg t e (d :: ds) l g = some (ys, l', g')) :
    ∃ l1 b l2 g2, tg d (wipeV l vs) = some l1 ∧ t l1 g = some (b, l2, g2) ∧ ((b = true ∧ ∃ y l3 g3 zs, e l2 g2 = some (y, l3, g3) ∧ lcL vs tg t e ds (backV l l3 vs) g3 = some (zs, l', g') ∧ ys = y :: zs) ∨ (b = false ∧ lcL vs tg t e ds (backV l l2 vs) g2 = some (ys, l', g'))) := by
  unfold lcL at h
  split at h
  · cases h
  · rename_i l1 e1
    split at h
    · cases h
    · rename_i l2 g2 e2
      split at h
      · cases h
      · rename_i y l3 g3 e3
        obtain ⟨zs, l4, g4, e4, e5⟩ := mb_some h
        obtain ⟨rfl, rfl, rfl⟩ := mp_some e5
        exact ⟨l1, true, l2, g2, e1, e2, .inl ⟨rfl, y, l3, g3, zs, e3, e4, rfl⟩⟩
    · rename_i l2 g2 e2
      exact ⟨l1, false, l2, g2, e1, e2, .inr ⟨rfl, h⟩⟩
section
variable {K : PySem.W.Frag} {tt : TT} {te : TE} {t : M Bool} {e0 : M PyData} {wi : TI} {it : M (List PyData)} {tg : TG} {gg : G} {vs : List Nat}
theorem plain_back {l l' : Lo} (h : plainAt vs l = true) (hl : l'.length = l.length) : plainAt vs (backV l l' vs) = true := by
  unfold plainAt
  refine List.all_eq_true.mpr fun v hv => ?_
  rw [List.getD_eq_getElem?_getD, backV_get, if_pos hv]
  split
  · exact List.all_eq_true.mp h v hv
  · rfl
theorem lc_run {l1 l' : Lo} {g1 g' : Sg} {s : L2.St} {H S : Hp} {r : List Addr} {A : List (Option Addr)} {ds d : List PyData} (hi : ∀ R : It → Hp → Prop, (∀ J H' S' r' A', Mv S H r A S' H' r' A' → StOk K l1 g1 s H' S' r' A' → WalkD K J S' ds → R J H') → wi s H R) (hg : GIn tg vs) (hm : ∀ v s H (Q Q' : L2.St → Hp → Prop), (∀ s' H', Q s' H' → Q' s' H') → tg v s H Q → tg v s H Q') (hb : BdS K tg gg) (ht : EvT K tt t) (he : EvS K te e0)
    (hpl : plainAt vs l1 = true) (hz : ds.length ≤ 100000) (e : lcL vs gg t e0 ds l1 g1 = some (d, l', g')) (Q : VK) (q : ∀ p xs H' S' r' A', Mv S H r A S' H' r' A' → StOk K l' g' s H' S' r' A' → H p = none → ¬ tr A' r' p → S' p = none → H' p = some (.lst xs) → DpAll K S' xs d → Q (.ref p) H') : tLc wi tg tt te vs s H Q := by
  refine hi _ fun J H1 S1 r1 A1 m1 h1 w => ?_
  intro D hD
  have hDH : H D = none := by
    cases hq : H D with
    | none => rfl
    | some u => exact absurd hD (m1.d D (some_ne hq))
  have gD : Grow m0 S1 H1 S1 (upd H1 D (.lst [])) := Grow.out h1.hs hD
  have hDt : ¬ tr A1 r1 D := fun z => (h1.there z).1 hD
  refine ⟨fun i m H2 => m = ds.length - i ∧ i ≤ ds.length ∧ ∃ li gi Si ri Ai acc ac rest, StOk K li gi s H2 Si ri Ai ∧ Mv S1 H1 r1 A1 Si H2 ri Ai ∧ ¬ tr Ai ri D ∧ Si D = none ∧ H2 D = some (.lst acc) ∧ DpAll K Si acc ac ∧ ac.length ≤ i ∧ plainAt vs li = true ∧ lcL vs gg t e0 (ds.drop i) li gi = some (rest, l', g') ∧ d = ac ++ rest,
    ⟨ds.length, by simp, Nat.zero_le _, l1, g1, S1, r1, A1, [], [], d, h1.grow gD, Mv.grow gD, hDt, h1.hs.free hD, upd_same, .nil, Nat.le_refl _, hpl, e, rfl⟩, ?_⟩
  rintro i m H2 ⟨rfl, hle, li, gi, Si, ri, Ai, acc, ac, rest, hst, mi, hDi, sDi, hacc, hdacc, hal, hpi, hrun, hd⟩
  by_cases hlt : i < ds.length
  · have mw := m1.trans mi
    refine .inr ⟨w.go i H2 hlt (mi.s.trans hst.hs), fun H3 => i + 1 ≤ ds.length ∧ ∃ li gi Si ri Ai acc ac rest, StOk K li gi s H3 Si ri Ai ∧ Mv S1 H1 r1 A1 Si H3 ri Ai ∧ ¬ tr Ai ri D ∧ Si D = none ∧ H3 D = some (.lst acc) ∧ DpAll K Si acc ac ∧ ac.length ≤ i + 1 ∧ plainAt vs li = true ∧ lcL vs gg t e0 (ds.drop (i + 1)) li gi = some (rest, l', g') ∧ d = ac ++ rest, fun H3 ⟨q1, q2⟩ => ⟨ds.length - (i + 1), by omega, rfl, q1, q2⟩, fun x H3 y => ?_⟩
    have hdi : ds[i]? = some ds[i] := List.getElem?_eq_getElem hlt
    obtain ⟨S3, g3, d3⟩ := w.yld i H2 x H3 ds[i] Si hdi mi.s hst.hs y
    have h3 := hst.grow g3
    have hdrop : ds.drop i = ds[i] :: ds.drop (i + 1) := List.drop_eq_getElem_cons hlt
    rw [hdrop] at hrun
    obtain ⟨lb, b, l2, g2, k1, k2, k3⟩ := lcL_step hrun
    have sD3 : S3 D = none := g3.n D sDi (some_ne hacc)
    have hD3 : H3 D = some (.lst acc) := g3.all D _ hacc
    have bnd := hb _ _ _ _ _ _ _ _ _ x (fun s4 H4 => ∃ S4 A4, Mv S3 H3 ri (cutA Ai vs) S4 H4 ri A4 ∧ StOk K lb gi s4 H4 S4 ri A4) k1 (h3.wipe (vs := vs)) d3 fun s4 H4 S4 A4 m4 h4 => ⟨S4, A4, m4, h4⟩
    refine hm _ _ _ _ _ ?_ (hg x (wipe s vs) H3 _ bnd)
    rintro s4 H4 ⟨hw, S4, A4, m4, h4⟩
    have hw' : wipe s4 vs = wipe s vs := by
      rw [hw]
      apply List.ext_getElem?
      intro j
      rw [wipe_get, wipe_get, wipe_length]
      by_cases hj : j ∈ vs
      · rw [if_pos hj, if_pos hj]
      · rw [if_neg hj, if_neg hj]
    refine ⟨hw', ?_⟩
    have hDc : ¬ tr (cutA Ai vs) ri D := fun z => hDi (trcut z)
    have sD4 : S4 D = none := m4.n D sD3 (some_ne hD3) hDc
    have hD4 : H4 D = some (.lst acc) := m4.k D _ hDc hD3
    have hD4t : ¬ tr A4 ri D := fun z => (m4.f D z).elim hDc (some_ne hD3)
    have mc : Mv Si H2 ri Ai S4 H4 ri A4 := by
      have := (Mv.grow (r := ri) (A := Ai) g3).trans (Mv.trans (A1 := cutA Ai vs) (A2 := A4) (r1 := ri) (r2 := ri) ⟨Same.refl S3, h3.hs, fun _ e _ _ => e, fun _ _ _ e => e, fun _ e => e, ⟨[], by simp⟩, fun a z => .inl (trcut z)⟩ m4)
      exact this
    have hlen4 : lb.length = li.length := by
      have e1 := h4.ls
      have e2 := hst.ls
      have e3 := congrArg List.length hw'
      rw [wipe_length, wipe_length] at e3
      omega
    refine ht _ _ _ _ _ s4 H4 S4 ri A4 k2 h4 _ fun H5 S5 r5 A5 m5 h5 => ?_
    have sD5 : S5 D = none := m5.n D sD4 (some_ne hD4) hD4t
    have hD5 : H5 D = some (.lst acc) := m5.k D _ hD4t hD4
    have hD5t : ¬ tr A5 r5 D := fun z => (m5.f D z).elim hD4t (some_ne hD4)
    have hlen5 : l2.length = li.length := by
      have e1 := h5.ls
      have e2 := h4.ls
      omega
    rcases k3 with ⟨rfl, y2, l3, g3', zs, k4, k5, k6⟩ | ⟨rfl, k4⟩
    · rw [if_pos rfl]
      refine he _ _ _ _ _ s4 H5 S5 r5 A5 k4 h5 _ fun v6 H6 S6 r6 A6 m6 h6 d6 => ?_
      have sD6 : S6 D = none := m6.n D sD5 (some_ne hD5) hD5t
      have hD6 : H6 D = some (.lst acc) := m6.k D _ hD5t hD5
      have hD6t : ¬ tr A6 r6 D := fun z => (m6.f D z).elim hD5t (some_ne hD5)
      have hlen6 : l3.length = li.length := by
        have e1 := h6.ls
        have e2 := h4.ls
        omega
      have mall := (mc.trans m5).trans m6
      have hb6 := hst.back hpi h6 hw' hlen6 mall.s mall.p
      have hl := DpAll_len hdacc
      have hDcut : ¬ tr (cutA A6 vs) r6 D := fun z => hD6t (trcut z)
      -- the new list grows
      have hput : StOk K (backV li l3 vs) g3' s (upd H6 D (.lst (acc ++ [v6]))) S6 r6 (cutA A6 vs) := by
        refine hb6.move (Same.refl S6) (fun b z e => ?_) (fun b hb => ⟨(hb6.thereA hb).2, fun u e => ?_⟩) ⟨[], by simp⟩ hb6.rn hb6.dr hb6.lg fun j b o e1 e2 => ?_
        · rw [upd_ne (ne_of_none e sD6)]; exact hb6.hs b z e
        · rw [upd_ne fun z => hDcut (.inl (by rw [← z]; exact hb))]; exact e
        · obtain ⟨p1, p2⟩ := hb6.st j b o e1 e2
          exact ⟨p1, p2.go (Same.refl S6) fun z e => by rw [upd_ne fun z => hDcut (.inr (by rw [← z]; exact List.mem_of_getElem? e1))]; exact e⟩
      have mnew : Mv S1 H1 r1 A1 S6 (upd H6 D (.lst (acc ++ [v6]))) r6 (cutA A6 vs) := by
        have mm := mi.trans mall
        refine ⟨mm.s, hput.hs, mm.n, fun b o hb e => ?_, fun b e => ?_, mm.p, fun b z => mm.f b (trcut z)⟩
        · have hbD : b ≠ D := fun z => by rw [z, hD] at e; cases e
          rw [upd_ne hbD]; exact mm.k b o hb e
        · by_cases hbD : b = D
          · subst hbD; rw [upd_same]; exact fun z => nomatch z
          · rw [upd_ne hbD]; exact mm.d b e
      refine ⟨acc, hD6, szt (by omega), hlt, backV li l3 vs, g3', S6, r6, cutA A6 vs, acc ++ [v6], ac ++ [y2], zs, hput, mnew, hDcut, sD6, upd_same, DpAll_app (DpAll_mono hdacc mall.s) (.cons d6 .nil), by rw [List.length_append]; simp; omega, plain_back hpi hlen6, k5, by rw [hd, k6]; simp⟩
    · rw [if_neg Bool.false_ne_true]
      have mall := mc.trans m5
      have hb5 := hst.back hpi h5 hw' hlen5 mall.s mall.p
      exact ⟨hlt, backV li l2 vs, g2, S5, r5, cutA A5 vs, acc, ac, rest, hb5, (mi.trans mall).cut, fun z => hD5t (trcut z), sD5, hD5, DpAll_mono hdacc mall.s, by omega, plain_back hpi hlen5, k4, hd⟩
  · have ei : i = ds.length := by omega
    subst ei
    rw [List.drop_length] at hrun
    obtain ⟨rfl, rfl, rfl⟩ := mp_some hrun
    rw [List.append_nil] at hd
    subst hd
    have mw := m1.trans mi
    exact .inl ⟨w.stop H2 (mi.s.trans hst.hs), q D acc H2 Si ri Ai mw hst hDH hDi sDi hacc hdacc⟩
theorem s_lc (hi : EvI K wi it) (hg : GIn tg vs) (hm : ∀ v s H (Q Q' : L2.St → Hp → Prop), (∀ s' H', Q s' H' → Q' s' H') → tg v s H Q → tg v s H Q') (hb : BdS K tg gg) (ht : EvT K tt t) (he : EvS K te e0) : EvL K (tLc wi tg tt te vs) (lLc vs it gg t e0) := fun l g d l' g' s H S r A e h Q q => by
  replace e := mb_some e; obtain ⟨ds, l1, g1, e1, e⟩ := e
  split at e
  case isFalse => cases e
  rename_i hz
  rw [Bool.and_eq_true, decide_eq_true_eq] at hz
  exact lc_run (fun R k => hi _ _ _ _ _ s H S r A e1 h R k) hg hm hb ht he hz.1 hz.2 e Q q
end
end Sm

namespace Sm
open PySem L2 RZ Dz

/-! ### calls -/
abbrev FS := List Vl → Sg → Option (Vl × Sg)
def StoOk (K : PySem.W.Frag) (S H : Hp) (r : List Addr) (g : Sg) : Prop := r.Nodup ∧ r.length = g.length ∧ ∀ (j : Nat) (a : Addr) (o : Ob), r[j]? = some a → g[j]? = some o → S a = none ∧ ObOk K S H a o
def spG (K : PySem.W.Frag) (n : Nat) (F : FS) : Sp := fun vs H Q _ => ∃ S r g as v g', as.length = n ∧ Same S H ∧ StoOk K S H r g ∧ VsOk K S r vs as ∧ F as g = some (v, g') ∧
  ∀ w S' H' r', Grow (· ∈ r) S H S' H' → (∃ q, r' = r ++ q) → (∀ a, a ∈ r' → a ∈ r ∨ H a = none) → StoOk K S' H' r' g' → VOk K S' r' w v → Q w H'
def vE (e : M PyData) : M Vl := mb e fun d => mp (.dat d)
def vR (i : Nat) : M Vl := mg fun l _ => match l[i]? with
  | some (.ref j) => some (.ref j)
  | _ => none
def vNil : M (List Vl) := mp []
def vCons (v : M Vl) (r : M (List Vl)) : M (List Vl) := mb v fun x => mb r fun xs => mp (x :: xs)
def vCall (F : FS) (a : M (List Vl)) : M Vl := mb a fun xs => fun l g => match F xs g with
  | none => none
  | some (v, g') => some (v, l, g')
def asD : Vl → Option PyData
  | .dat d => some d
  | _ => none
def eD (v : M Vl) : M PyData := mb v fun x => mo (asD x)
def eCall (F : FS) (a : M (List Vl)) : M PyData := eD (vCall F a)
section
variable {K : PySem.W.Frag} {ta te : TE} {e0 : M PyData}
theorem s_vE (h : EvS K te e0) : EvV K te (vE e0) := fun l g d l' g' s H S r A e hA Q q => by
  replace e := mb_some e; obtain ⟨x, l1, g1, e1, e⟩ := e
  obtain ⟨rfl, rfl, rfl⟩ := mp_some e
  exact h _ _ _ _ _ s H S r A e1 hA _ fun v H1 S1 r1 A1 m1 h1 d1 => q v H1 S1 r1 A1 m1 h1 d1
theorem s_vR {i : Nat} : EvV K (tVar i) (vR i) := fun l g d l' g' s H S r A e h Q q => by
  replace e := mg_some e; obtain ⟨e, rfl, rfl⟩ := e
  split at e
  · rename_i j hl
    cases e
    obtain ⟨o, v, e1, e2, e3, a, e4, rfl⟩ := h.ok i _ hl
    exact ⟨_, e2, q _ H S r A (Mv.refl h.hs) h ⟨a, e4, rfl⟩⟩
  · cases e
theorem s_vnil : EvVA K tNil vNil := fun l g d l' g' s H S r A e h Q q => by
  obtain ⟨rfl, rfl, rfl⟩ := mp_some e
  exact q _ H S r A (Mv.refl h.hs) h .nil
theorem s_vcons {tr : TA} {v : M Vl} {m : M (List Vl)} (ha : EvV K ta v) (hb : EvVA K tr m) : EvVA K (tCons ta tr) (vCons v m) := fun l g d l' g' s H S r A e h Q q => by
  replace e := mb_some e; obtain ⟨x, l1, g1, e1, e⟩ := e
  replace e := mb_some e; obtain ⟨y, l2, g2, e2, e⟩ := e
  obtain ⟨rfl, rfl, rfl⟩ := mp_some e
  exact ha _ _ _ _ _ s H S r A e1 h _ fun v1 H1 S1 r1 A1 m1 h1 d1 => hb _ _ _ _ _ s H1 S1 r1 A1 e2 h1 _ fun v2 H2 S2 r2 A2 m2 h2 d2 => q _ H2 S2 r2 A2 (m1.trans m2) h2 (.cons (d1.go m2.s m2.p) d2)
/-- by values: what the promise gives at a state -/
theorem call_at {F : FS} {n : Nat} {l : Lo} {g g' : Sg} {s : L2.St} {H S : Hp} {r : List Addr} {A : List (Option Addr)} {vs : List V} {as : List Vl} {v : Vl} {Q : VK} {E : XK} (h : StOk K l g s H S r A) (hv : VsOk K S r vs as) (hn : as.length = n) (e : F as g = some (v, g'))
    (q : ∀ w H1 S1 r1, Mv S H r A S1 H1 r1 A → StOk K l g' s H1 S1 r1 A → VOk K S1 r1 w v → Q w H1) : spG K n F vs H Q E :=
  ⟨S, r, g, as, v, g', hn, h.hs, ⟨h.rn, h.lg, h.st⟩, hv, e, fun w S1 H1 r1 gr hp hf ⟨s1, s2, s3⟩ hw => by
    obtain ⟨h1, m1⟩ := h.call gr hp s1 hf s2 s3
    exact q w H1 S1 r1 m1 h1 hw⟩
theorem paired_len {α β : Type} {R : α → β → Prop} {xs : List α} {ys : List β} (h : Paired R xs ys) : xs.length = ys.length := by
  induction h with
  | nil => rfl
  | cons _ _ ih => simp [ih]
def lenIs {α : Type} (n : Nat) (m : M (List α)) : M (List α) := mb m fun xs => mo (if xs.length = n then some xs else none)
theorem s_vcall {F : FS} {n : Nat} {E : XK} {tr : TA} {m : M (List Vl)} (ha : EvVA K tr m) (hn : ∀ l g xs l' g', m l g = some (xs, l', g') → xs.length = n) : EvV K (tCall (spG K n F) [] E tr) (vCall F m) := fun l g d l' g' s H S r A e h Q q => by
  replace e := mb_some e; obtain ⟨x, l1, g1, e1, e⟩ := e
  split at e
  · cases e
  · rename_i v g2 e2
    cases e
    refine ha _ _ _ _ _ s H S r A e1 h _ fun vs H1 S1 r1 A1 m1 h1 d1 => ?_
    show spG K n F (vs ++ []) H1 Q E
    rw [List.append_nil]
    exact call_at h1 d1 (hn _ _ _ _ _ e1) e2 fun w H2 S2 r2 m2 h2 d2 => q w H2 S2 r2 A1 (m1.trans m2) h2 d2
theorem s_eD {v : M Vl} (h : EvV K te v) : EvS K te (eD v) := fun l g d l' g' s H S r A e hA Q q => by
  replace e := mb_some e; obtain ⟨x, l1, g1, e1, e⟩ := e
  replace e := mo_some e; obtain ⟨e, rfl, rfl⟩ := e
  cases x <;> first | cases e | skip
  exact h _ _ _ _ _ s H S r A e1 hA _ fun v H1 S1 r1 A1 m1 h1 d1 => q v H1 S1 r1 A1 m1 h1 d1
theorem s_call {F : FS} {n : Nat} {E : XK} {tr : TA} {m : M (List Vl)} (ha : EvVA K tr m) (hn : ∀ l g xs l' g', m l g = some (xs, l', g') → xs.length = n) : EvS K (tCall (spG K n F) [] E tr) (eCall F m) := s_eD (s_vcall ha hn)
theorem vn_nil : ∀ l g xs l' g', vNil l g = some (xs, l', g') → xs.length = 0 := fun l g xs l' g' e => by
  obtain ⟨rfl, _⟩ := mp_some e
  rfl
theorem vn_cons {v : M Vl} {m : M (List Vl)} {n : Nat} (h : ∀ l g xs l' g', m l g = some (xs, l', g') → xs.length = n) : ∀ l g xs l' g', vCons v m l g = some (xs, l', g') → xs.length = n + 1 := fun l g xs l' g' e => by
  replace e := mb_some e; obtain ⟨x, l1, g1, e1, e⟩ := e
  replace e := mb_some e; obtain ⟨y, l2, g2, e2, e⟩ := e
  obtain ⟨rfl, _⟩ := mp_some e
  simp [h _ _ _ _ _ e2]
end

theorem StOk.setD {K : PySem.W.Frag} {l : Lo} {g : Sg} {s : L2.St} {H S : Hp} {r : List Addr} {A : List (Option Addr)} {i : Nat} {v : V} {d : PyData} (h : StOk K l g s H S r A) (hd : Dp K S v d) : StOk K (l.set i (.dat d)) g (s.set i (some v)) H S r (A.set i none) := h.set ⟨rfl, v, rfl, hd⟩
theorem StOk.freshL {K : PySem.W.Frag} {l : Lo} {g : Sg} {s : L2.St} {H S : Hp} {r : List Addr} {A : List (Option Addr)} {i : Nat} {p : Addr} {xs : List V} {ds : List PyData} (h : StOk K l g s H S r A) (hA : some p ∉ A) (hr : p ∉ r) (sp : S p = none) (hx : H p = some (.lst xs)) (hd : DpAll K S xs ds) : StOk K (l.set i (.own ds)) g (s.set i (some (.ref p))) H S r (A.set i (some p)) := h.fresh hA hr ⟨p, rfl, rfl, sp, xs, hx, hd⟩
theorem StOk.freshC {K : PySem.W.Frag} {l : Lo} {g : Sg} {s : L2.St} {H S : Hp} {r : List Addr} {A : List (Option Addr)} {i : Nat} {p : Addr} {xs : List (Key × V)} {ds : List (Key × PyData)} (h : StOk K l g s H S r A) (hA : some p ∉ A) (hr : p ∉ r) (sp : S p = none) (hx : H p = some (.dK xs)) (hd : KvD K S xs ds) : StOk K (l.set i (.dct ds)) g (s.set i (some (.ref p))) H S r (A.set i (some p)) := h.fresh hA hr ⟨p, rfl, rfl, sp, xs, hx, hd⟩
/-! ### statements -/
inductive Out where
  | nx
  | bk
  | ct
  | ret (v : Vl)
abbrev X := M Out
def OutOk (K : PySem.W.Frag) (D : Ends) (S : Hp) (r : List Addr) (s : L2.St) (H : Hp) : Out → Prop
  | .nx => D.nx s H
  | .bk => D.bk s H
  | .ct => D.ct s H
  | .ret v => ∀ w, VOk K S r w v → D.rt w H
def ExS (K : PySem.W.Frag) (ts : TS) (x : X) : Prop := ∀ l g o l' g' s H S r A, x l g = some (o, l', g') → StOk K l g s H S r A → ∀ D : Ends, (∀ s' H' S' r' A', Mv S H r A S' H' r' A' → StOk K l' g' s' H' S' r' A' → OutOk K D S' r' s' H' o) → ts D s H
def xNext : X := mp .nx
def xBreak : X := mp .bk
def xCont : X := mp .ct
def xSeq (x y : X) : X := mb x fun o => match o with
  | .nx => y
  | o => mp o
def xAsg (i : Nat) (e : M PyData) : X := mb e fun d => fun l g => some (.nx, l.set i (.dat d), g)
def xAsgG (G : G) (e : M PyData) : X := mb e fun d => fun l g => match G d l with
  | none => none
  | some l' => some (.nx, l', g)
def xAsgL (i : Nat) (m : M (List PyData)) : X := mb m fun ds => fun l g => some (.nx, l.set i (.own ds), g)
def xAsgC (i : Nat) (m : M (List (Key × PyData))) : X := mb m fun ds => fun l g => some (.nx, l.set i (.dct ds), g)
def isVal : Vl → Bool
  | .dat _ => true
  | .ref _ => true
  | _ => false
def xAsgV (i : Nat) (v : M Vl) : X := mb v fun x => fun l g => some (.nx, l.set i x, g)
def xIf (t : M Bool) (a b : X) : X := mb t fun c => if c = true then a else b
def xRet (e : M PyData) : X := mb e fun d => mp (.ret (.dat d))
def xRetV (v : M Vl) : X := mb v fun d => mp (.ret d)
def xRetN : X := mp (.ret (.dat .none))
def xDrop (e : M PyData) : X := mb e fun _ => mp .nx
def xDropV (e : M Vl) : X := mb e fun _ => mp .nx
def appO (i : Nat) (d : PyData) : X := fun l g => match lsM l g i with
  | some ds => if ds.length < 100000 then some (.nx, (ptV l g i (ds ++ [d])).1, (ptV l g i (ds ++ [d])).2) else none
  | none => none
def xApp (i : Nat) (e : M PyData) : X := mb (mg fun l g => lsM l g i) fun _ => mb e fun d => appO i d
def setO (i : Nat) (k d : PyData) : X := fun l g => match lsM l g i, asI k with
  | some ds, some n => (match ixN ds.length n with
    | some j => some (.nx, (ptV l g i (ds.set j d)).1, (ptV l g i (ds.set j d)).2)
    | none => none)
  | _, _ => none
def xSetI (i : Nat) (k e : M PyData) : X := mb e fun d => mb (mg fun l g => lsM l g i) fun _ => mb k fun y => setO i y d
def xAug (i : Nat) (f : PyData → PyData → Option PyData) (e : M PyData) : X := mb (eVar i) fun x => mb e fun y => mb (mo (f x y)) fun z => fun l g => some (.nx, l.set i (.dat z), g)
def xForL (G : G) (b : X) : List PyData → X
  | [] => mp .nx
  | d :: ds => fun l g => match G d l with
    | none => none
    | some l1 => match b l1 g with
      | none => none
      | some (.nx, l2, g2) => xForL G b ds l2 g2
      | some (.ct, l2, g2) => xForL G b ds l2 g2
      | some (.bk, l2, g2) => some (.nx, l2, g2)
      | some (.ret v, l2, g2) => some (.ret v, l2, g2)
def xFor (it : M (List PyData)) (G : G) (b : X) : X := mb it fun ds => xForL G b ds
def whF (t : M Bool) (b : X) : Nat → X
  | 0 => fail
  | n + 1 => fun l g => match t l g with
    | none => none
    | some (false, l1, g1) => some (.nx, l1, g1)
    | some (true, l1, g1) => match b l1 g1 with
      | none => none
      | some (.nx, l2, g2) => whF t b n l2 g2
      | some (.ct, l2, g2) => whF t b n l2 g2
      | some (.bk, l2, g2) => some (.nx, l2, g2)
      | some (.ret v, l2, g2) => some (.ret v, l2, g2)
/-- turns enough for every while here -/
def wFuel : Nat := 100000
def xWhile (t : M Bool) (b : X) : X := whF t b wFuel
def xFrz (i : Nat) (x : X) : X := fun l g => match l[i]? with
  | some (.own ds) => x (l.set i (.dat (.list ds))) g
  | _ => x l g
def xPar (i j : Nat) (a b : M PyData) : X := mb a fun x => mb b fun y => fun l g => some (.nx, (l.set i (.dat x)).set j (.dat y), g)
def xParDL (i j : Nat) (a : M PyData) (b : M (List PyData)) : X := mb a fun x => mb b fun y => fun l g => some (.nx, (l.set i (.dat x)).set j (.own y), g)
def xParLD (i j : Nat) (a : M (List PyData)) (b : M PyData) : X := mb a fun x => mb b fun y => fun l g => some (.nx, (l.set i (.own x)).set j (.dat y), g)
def xParLL (i j : Nat) (a b : M (List PyData)) : X := mb a fun x => mb b fun y => fun l g => some (.nx, (l.set i (.own x)).set j (.own y), g)
def xParCL (i j : Nat) (a : M (List (Key × PyData))) (b : M (List PyData)) : X := mb a fun x => mb b fun y => fun l g => some (.nx, (l.set i (.dct x)).set j (.own y), g)
def xPar3 (i j k : Nat) (a : M (List PyData)) : X := mb a fun xs => fun l g => match xs with
  | [x, y, z] => some (.nx, ((l.set i (.dat x)).set j (.dat y)).set k (.dat z), g)
  | _ => none
section
variable {K : PySem.W.Frag} {ta tb te : TE} {tt : TT} {tu tv : TS} {a b e0 : M PyData} {t : M Bool} {x y : X} {i j k : Nat}
theorem x_next : ExS K tNext xNext := fun l g o l' g' s H S r A e h D q => by
  obtain ⟨rfl, rfl, rfl⟩ := mp_some e
  exact q s H S r A (Mv.refl h.hs) h
theorem x_break : ExS K tBreak xBreak := fun l g o l' g' s H S r A e h D q => by
  obtain ⟨rfl, rfl, rfl⟩ := mp_some e
  exact q s H S r A (Mv.refl h.hs) h
theorem x_cont : ExS K tCont xCont := fun l g o l' g' s H S r A e h D q => by
  obtain ⟨rfl, rfl, rfl⟩ := mp_some e
  exact q s H S r A (Mv.refl h.hs) h
theorem x_seq (h1 : ExS K tu x) (h2 : ExS K tv y) : ExS K (tSeq tu tv) (xSeq x y) := fun l g o l' g' s H S r A e h D q => by
  replace e := mb_some e; obtain ⟨o1, l1, g1, e1, e⟩ := e
  refine h1 _ _ _ _ _ s H S r A e1 h _ fun s1 H1 S1 r1 A1 m1 h1' => ?_
  cases o1 with
  | nx => exact h2 _ _ _ _ _ s1 H1 S1 r1 A1 e h1' D fun s2 H2 S2 r2 A2 m2 h2' => q s2 H2 S2 r2 A2 (m1.trans m2) h2'
  | bk => obtain ⟨rfl, rfl, rfl⟩ := mp_some e; exact q s1 H1 S1 r1 A1 m1 h1'
  | ct => obtain ⟨rfl, rfl, rfl⟩ := mp_some e; exact q s1 H1 S1 r1 A1 m1 h1'
  | ret v => obtain ⟨rfl, rfl, rfl⟩ := mp_some e; exact q s1 H1 S1 r1 A1 m1 h1'
theorem x_asg (he : EvS K te e0) : ExS K (tAsg te (gName i)) (xAsg i e0) := fun l g o l' g' s H S r A e h D q => by
  replace e := mb_some e; obtain ⟨d, l1, g1, e1, e⟩ := e
  cases e
  exact he _ _ _ _ _ s H S r A e1 h _ fun v H1 S1 r1 A1 m1 h1 d1 => q _ H1 S1 r1 _ m1.set (h1.set ⟨rfl, v, rfl, d1⟩)
theorem x_asgG {tg : TG} {gg : G} (he : EvS K te e0) (hb : BdS K tg gg) : ExS K (tAsg te tg) (xAsgG gg e0) := fun l g o l' g' s H S r A e h D q => by
  replace e := mb_some e; obtain ⟨d, l1, g1, e1, e⟩ := e
  split at e
  · cases e
  · rename_i l2 e2
    cases e
    exact he _ _ _ _ _ s H S r A e1 h _ fun v H1 S1 r1 A1 m1 h1 d1 => hb _ _ _ _ s H1 S1 r1 A1 v _ e2 h1 d1 fun s2 H2 S2 A2 m2 h2 => q s2 H2 S2 r1 A2 (m1.trans m2) h2
theorem x_asgL {m : M (List PyData)} (he : EvL K te m) : ExS K (tAsg te (gName i)) (xAsgL i m) := fun l g o l' g' s H S r A e h D q => by
  replace e := mb_some e; obtain ⟨d, l1, g1, e1, e⟩ := e
  cases e
  exact he _ _ _ _ _ s H S r A e1 h _ fun p xs H1 S1 r1 A1 m1 h1 hp ht sp hx hd => q _ H1 S1 r1 _ (m1.fresh hp) (h1.fresh (fun z => ht (.inl z)) (fun z => ht (.inr z)) ⟨p, rfl, rfl, sp, xs, hx, hd⟩)
theorem x_asgC {m : M (List (Key × PyData))} (he : EvC K te m) : ExS K (tAsg te (gName i)) (xAsgC i m) := fun l g o l' g' s H S r A e h D q => by
  replace e := mb_some e; obtain ⟨d, l1, g1, e1, e⟩ := e
  cases e
  exact he _ _ _ _ _ s H S r A e1 h _ fun p xs H1 S1 r1 A1 m1 h1 hp ht sp hx hd => q _ H1 S1 r1 _ (m1.fresh hp) (h1.fresh (fun z => ht (.inl z)) (fun z => ht (.inr z)) ⟨p, rfl, rfl, sp, xs, hx, hd⟩)
theorem x_asgV {v : M Vl} (he : EvV K te v) : ExS K (tAsg te (gName i)) (xAsgV i v) := fun l g o l' g' s H S r A e h D q => by
  replace e := mb_some e; obtain ⟨d, l1, g1, e1, e⟩ := e
  cases e
  refine he _ _ _ _ _ s H S r A e1 h _ fun v H1 S1 r1 A1 m1 h1 d1 => ?_
  cases d with
  | dat d => exact q _ H1 S1 r1 _ m1.set (h1.set ⟨rfl, v, rfl, d1⟩)
  | ref j => obtain ⟨a, e2, rfl⟩ := d1; exact q _ H1 S1 r1 _ m1.set (h1.set ⟨rfl, a, e2, rfl⟩)
  | no => cases d1
  | own ds => cases d1
  | dct ds => cases d1
theorem x_if (ht : EvT K tt t) (h1 : ExS K tu x) (h2 : ExS K tv y) : ExS K (tIfS tt tu tv) (xIf t x y) := fun l g o l' g' s H S r A e h D q => by
  replace e := mb_some e; obtain ⟨c, l1, g1, e1, e⟩ := e
  refine ht _ _ _ _ _ s H S r A e1 h _ fun H1 S1 r1 A1 m1 h1' => ?_
  cases c with
  | true => exact h1 _ _ _ _ _ s H1 S1 r1 A1 e h1' D fun s2 H2 S2 r2 A2 m2 h2' => q s2 H2 S2 r2 A2 (m1.trans m2) h2'
  | false => exact h2 _ _ _ _ _ s H1 S1 r1 A1 e h1' D fun s2 H2 S2 r2 A2 m2 h2' => q s2 H2 S2 r2 A2 (m1.trans m2) h2'
theorem x_retV {v : M Vl} (he : EvV K te v) : ExS K (tRet te) (xRetV v) := fun l g o l' g' s H S r A e h D q => by
  replace e := mb_some e; obtain ⟨d, l1, g1, e1, e⟩ := e
  obtain ⟨rfl, rfl, rfl⟩ := mp_some e
  exact he _ _ _ _ _ s H S r A e1 h _ fun v H1 S1 r1 A1 m1 h1 d1 => q s H1 S1 r1 A1 m1 h1 v d1
theorem x_ret (he : EvS K te e0) : ExS K (tRet te) (xRet e0) := fun l g o l' g' s H S r A e h D q => by
  replace e := mb_some e; obtain ⟨d, l1, g1, e1, e⟩ := e
  obtain ⟨rfl, rfl, rfl⟩ := mp_some e
  exact he _ _ _ _ _ s H S r A e1 h _ fun v H1 S1 r1 A1 m1 h1 d1 => q s H1 S1 r1 A1 m1 h1 v d1
theorem x_retN : ExS K tRetN xRetN := fun l g o l' g' s H S r A e h D q => by
  obtain ⟨rfl, rfl, rfl⟩ := mp_some e
  exact q s H S r A (Mv.refl h.hs) h .non .non
theorem x_drop (he : EvS K te e0) : ExS K (tDrop te) (xDrop e0) := fun l g o l' g' s H S r A e h D q => by
  replace e := mb_some e; obtain ⟨d, l1, g1, e1, e⟩ := e
  obtain ⟨rfl, rfl, rfl⟩ := mp_some e
  exact he _ _ _ _ _ s H S r A e1 h _ fun v H1 S1 r1 A1 m1 h1 d1 => q s H1 S1 r1 A1 m1 h1
theorem x_dropV {v : M Vl} (he : EvV K te v) : ExS K (tDrop te) (xDropV v) := fun l g o l' g' s H S r A e h D q => by
  replace e := mb_some e; obtain ⟨d, l1, g1, e1, e⟩ := e
  obtain ⟨rfl, rfl, rfl⟩ := mp_some e
  exact he _ _ _ _ _ s H S r A e1 h _ fun v H1 S1 r1 A1 m1 h1 d1 => q s H1 S1 r1 A1 m1 h1
theorem x_app (he : EvS K te e0) : ExS K (tDrop (tBM K "list" rAppend (tVar i) (tCons te tNil))) (xApp i e0) := fun l g o l' g' s H S r A e h D q => by
  replace e := mb_some e; obtain ⟨y0, l0, g0, e0, e⟩ := e
  replace e0 := mg_some e0; obtain ⟨e0, rfl, rfl⟩ := e0
  replace e := mb_some e; obtain ⟨d, l1, g1, e1, e⟩ := e
  obtain ⟨a, xs, q1, q2, q3, _⟩ := wr_ls h e0
  refine ⟨_, q1, .inl ⟨rfl, xs, .inl (.inl q2)⟩, he _ _ _ _ _ s H S r A e1 h _ fun v1 H1 S1 r1 A1 m1 h1 d1 => ?_⟩
  unfold appO at e
  split at e
  · rename_i ds hm
    split at e
    · rename_i hz
      cases e
      obtain ⟨a', xs, q4, q5, q6, q7⟩ := wr_ls h1 hm
      rw [q1] at q4
      cases q4
      obtain ⟨z1, z2⟩ := q7 _ _ (DpAll_app q6 (.cons d1 .nil))
      exact ⟨a, xs, v1, rfl, rfl, q5, szt (by rw [DpAll_len q6]; exact hz), q s _ S1 r1 A1 (m1.trans z2) z1⟩
    · cases e
  · cases e
theorem x_setI (hk : EvS K tb b) (he : EvS K te e0) : ExS K (tAsg te (gSub (tVar i) tb rSetL)) (xSetI i b e0) := fun l g o l' g' s H S r A e h D q => by
  replace e := mb_some e; obtain ⟨d, l1, g1, e1, e⟩ := e
  replace e := mb_some e; obtain ⟨y0, l0, g0, e0, e⟩ := e
  replace e0 := mg_some e0; obtain ⟨e0, rfl, rfl⟩ := e0
  replace e := mb_some e; obtain ⟨y, l2, g2, e2, e⟩ := e
  refine he _ _ _ _ _ s H S r A e1 h _ fun v1 H1 S1 r1 A1 m1 h1 d1 => ?_
  obtain ⟨a, xs, q1, q2, q3, _⟩ := wr_ls h1 e0
  refine ⟨_, q1, hk _ _ _ _ _ s H1 S1 r1 A1 e2 h1 _ fun v2 H2 S2 r2 A2 m2 h2 d2 => ?_⟩
  unfold setO at e
  split at e
  · rename_i ds n hm hn
    cases asI_some hn
    cases d2
    split at e
    · rename_i jj hj
      cases e
      obtain ⟨a', xs, q4, q5, q6, q7⟩ := wr_ls h2 hm
      rw [q1] at q4
      cases q4
      obtain ⟨z1, z2⟩ := q7 _ _ (DpAll_set (Dp_mono d1 m2.s) jj q6)
      exact ⟨a, xs, n, jj, rfl, rfl, q5, by rw [DpAll_len q6]; exact hj, q s _ S2 r2 A2 ((m1.trans m2).trans z2) z1⟩
    · cases e
  · cases e
theorem x_aug {f : Int → Int → Int} {fd : PyData → PyData → Option PyData} (hf : ∀ x y z, fd x y = some z → ∀ n m, x = .int n → y = .int m → z = .int (f n m)) (hi : ∀ x y z, fd x y = some z → (∃ n, x = .int n) ∧ ∃ m, y = .int m) (he : EvS K te e0) : ExS K (tAug i te (ipI f)) (xAug i fd e0) := fun l g o l' g' s H S r A e h D q => by
  replace e := mb_some e; obtain ⟨d, l0, g0, e0, e⟩ := e
  replace e := mb_some e; obtain ⟨y, l1, g1, e1, e⟩ := e
  replace e := mb_some e; obtain ⟨z, l2, g2, e2, e⟩ := e
  replace e2 := mo_some e2; obtain ⟨e2, rfl, rfl⟩ := e2
  cases e
  unfold eVar at e0
  split at e0
  · rename_i d' hl
    cases e0
    obtain ⟨o, v, p1, p2, p3, w, rfl, p4⟩ := h.ok i _ hl
    obtain ⟨⟨n, rfl⟩, m, rfl⟩ := hi _ _ _ e2
    cases hf _ _ _ e2 n m rfl rfl
    cases p4
    refine ⟨_, p2, he _ _ _ _ _ s H S r A e1 h _ fun v H1 S1 r1 A1 m1 h1 d1 => ?_⟩
    cases d1
    exact ⟨n, m, rfl, rfl, q _ H1 S1 r1 _ m1.set (h1.set ⟨rfl, _, rfl, .int _⟩)⟩
  · cases e0
def addI := iOp fun i j => .int (i + j)
theorem x_augA (he : EvS K te e0) : ExS K (tAug i te (ipI fun i j => i + j)) (xAug i addI e0) := x_aug (fun x y z e n m e1 e2 => by subst e1 e2; cases e; rfl) (fun x y z e => by
  unfold addI iOp at e
  split at e
  · exact ⟨⟨_, rfl⟩, _, rfl⟩
  · cases e) he
theorem x_augS (he : EvS K te e0) : ExS K (tAug i te (ipI fun i j => i - j)) (xAug i subD e0) := x_aug (fun x y z e n m e1 e2 => by subst e1 e2; cases e; rfl) (fun x y z e => by
  unfold subD iOp at e
  split at e
  · exact ⟨⟨_, rfl⟩, _, rfl⟩
  · cases e) he
theorem x_for {wi : TI} {it : M (List PyData)} {tg : TG} {gg : G} (hi : EvI K wi it) (hb : BdS K tg gg) (hx : ExS K tu x) : ExS K (tFor wi tg tu) (xFor it gg x) := fun l g o l' g' s H S r A e h D q => by
  replace e := mb_some e; obtain ⟨ds, l1, g1, e1, e⟩ := e
  refine hi _ _ _ _ _ s H S r A e1 h _ fun J H1 S1 r1 A1 m1 h1 w => ?_
  refine ⟨fun i m s' H' => m = ds.length - i ∧ i ≤ ds.length ∧ ∃ li gi Si ri Ai, StOk K li gi s' H' Si ri Ai ∧ Mv S1 H1 r1 A1 Si H' ri Ai ∧ xForL gg x (ds.drop i) li gi = some (o, l', g'), ⟨ds.length, by simp, Nat.zero_le _, l1, g1, S1, r1, A1, h1, Mv.refl h1.hs, e⟩, ?_⟩
  rintro i m s' H' ⟨rfl, hle, li, gi, Si, ri, Ai, hst, mi, hrun⟩
  by_cases hlt : i < ds.length
  · refine .inr ⟨w.go i H' hlt (mi.s.trans hst.hs), fun s' H' => i + 1 ≤ ds.length ∧ ∃ li gi Si ri Ai, StOk K li gi s' H' Si ri Ai ∧ Mv S1 H1 r1 A1 Si H' ri Ai ∧ xForL gg x (ds.drop (i + 1)) li gi = some (o, l', g'), fun s3 H3 ⟨q1, q2⟩ => ⟨ds.length - (i + 1), by omega, rfl, q1, q2⟩, fun v H3 y => ?_⟩
    have hdi : ds[i]? = some ds[i] := List.getElem?_eq_getElem hlt
    obtain ⟨S3, g3, d3⟩ := w.yld i H' v H3 ds[i] Si hdi mi.s hst.hs y
    have h3 := hst.grow g3
    have hdrop : ds.drop i = ds[i] :: ds.drop (i + 1) := List.drop_eq_getElem_cons hlt
    rw [hdrop] at hrun
    unfold xForL at hrun
    split at hrun
    · cases hrun
    · rename_i lb hlb
      refine hb _ _ _ _ s' H3 S3 ri Ai v _ hlb h3 d3 fun s4 H4 S4 A4 m4 h4 => ?_
      have m34 := (mi.trans (Mv.grow g3)).trans m4
      split at hrun
      · cases hrun
      · rename_i l2 g2 e2
        exact hx _ _ _ _ _ s4 H4 S4 ri A4 e2 h4 _ fun s5 H5 S5 r5 A5 m5 h5 => ⟨hlt, l2, g2, S5, r5, A5, h5, m34.trans m5, hrun⟩
      · rename_i l2 g2 e2
        exact hx _ _ _ _ _ s4 H4 S4 ri A4 e2 h4 _ fun s5 H5 S5 r5 A5 m5 h5 => ⟨hlt, l2, g2, S5, r5, A5, h5, m34.trans m5, hrun⟩
      · rename_i l2 g2 e2
        cases hrun
        exact hx _ _ _ _ _ s4 H4 S4 ri A4 e2 h4 _ fun s5 H5 S5 r5 A5 m5 h5 => q s5 H5 S5 r5 A5 (m1.trans (m34.trans m5)) h5
      · rename_i v l2 g2 e2
        cases hrun
        exact hx _ _ _ _ _ s4 H4 S4 ri A4 e2 h4 _ fun s5 H5 S5 r5 A5 m5 h5 => q s5 H5 S5 r5 A5 (m1.trans (m34.trans m5)) h5
  · have ei : i = ds.length := by omega
    subst ei
    rw [List.drop_length] at hrun
    obtain ⟨rfl, rfl, rfl⟩ := mp_some hrun
    exact .inl ⟨w.stop H' (mi.s.trans hst.hs), q s' H' Si ri Ai (m1.trans mi) hst⟩
theorem x_while (ht : EvT K tt t) (hx : ExS K tu x) : ExS K (tWhile tt tu) (xWhile t x) := fun l g o l' g' s H S r A e h D q => by
  refine ⟨fun m s' H' => ∃ li gi Si ri Ai, StOk K li gi s' H' Si ri Ai ∧ Mv S H r A Si H' ri Ai ∧ whF t x m li gi = some (o, l', g'), ⟨wFuel, l, g, S, r, A, h, Mv.refl h.hs, e⟩, ?_⟩
  rintro m s' H' ⟨li, gi, Si, ri, Ai, hst, mi, hrun⟩
  cases m with
  | zero => cases hrun
  | succ m =>
    unfold whF at hrun
    split at hrun
    · cases hrun
    · rename_i l1 g1 e1
      cases hrun
      refine ht _ _ _ _ _ s' H' Si ri Ai e1 hst _ fun H1 S1 r1 A1 m1 h1 => ?_
      rw [if_neg Bool.false_ne_true]
      exact q s' H1 S1 r1 A1 (mi.trans m1) h1
    · rename_i l1 g1 e1
      refine ht _ _ _ _ _ s' H' Si ri Ai e1 hst _ fun H1 S1 r1 A1 m1 h1 => ?_
      rw [if_pos rfl]
      refine ⟨fun s' H' => ∃ li gi Si ri Ai, StOk K li gi s' H' Si ri Ai ∧ Mv S H r A Si H' ri Ai ∧ whF t x m li gi = some (o, l', g'), fun s3 H3 q3 => ⟨m, by omega, q3⟩, ?_⟩
      have m2 := mi.trans m1
      split at hrun
      · cases hrun
      · rename_i l2 g2 e2
        exact hx _ _ _ _ _ s' H1 S1 r1 A1 e2 h1 _ fun s5 H5 S5 r5 A5 m5 h5 => ⟨l2, g2, S5, r5, A5, h5, m2.trans m5, hrun⟩
      · rename_i l2 g2 e2
        exact hx _ _ _ _ _ s' H1 S1 r1 A1 e2 h1 _ fun s5 H5 S5 r5 A5 m5 h5 => ⟨l2, g2, S5, r5, A5, h5, m2.trans m5, hrun⟩
      · rename_i l2 g2 e2
        cases hrun
        exact hx _ _ _ _ _ s' H1 S1 r1 A1 e2 h1 _ fun s5 H5 S5 r5 A5 m5 h5 => q s5 H5 S5 r5 A5 (m2.trans m5) h5
      · rename_i v l2 g2 e2
        cases hrun
        exact hx _ _ _ _ _ s' H1 S1 r1 A1 e2 h1 _ fun s5 H5 S5 r5 A5 m5 h5 => q s5 H5 S5 r5 A5 (m2.trans m5) h5
theorem x_frz (hx : ExS K tu x) : ExS K tu (xFrz i x) := fun l g o l' g' s H S r A e h D q => by
  unfold xFrz at e
  split at e
  · rename_i ds hl
    obtain ⟨S1, h1, m1⟩ := h.freeze hl
    exact hx _ _ _ _ _ s H S1 r _ e h1 D fun s2 H2 S2 r2 A2 m2 h2 => q s2 H2 S2 r2 A2 (m1.trans m2) h2
  · exact hx _ _ _ _ _ s H S r A e h D q
theorem x_par (ha : EvS K ta a) (hb : EvS K tb b) : ExS K (tPar i j (tCons ta (tCons tb tNil))) (xPar i j a b) := fun l g o l' g' s H S r A e h D q => by
  replace e := mb_some e; obtain ⟨x, l1, g1, e1, e⟩ := e
  replace e := mb_some e; obtain ⟨y, l2, g2, e2, e⟩ := e
  cases e
  exact ha _ _ _ _ _ s H S r A e1 h _ fun v1 H1 S1 r1 A1 m1 h1 d1 => hb _ _ _ _ _ s H1 S1 r1 A1 e2 h1 _ fun v2 H2 S2 r2 A2 m2 h2 d2 => ⟨_, _, rfl, q _ H2 S2 r2 _ (m1.trans m2).set.set ((h2.setD (Dp_mono d1 m2.s)).setD d2)⟩
theorem x_parDL {m : M (List PyData)} (ha : EvS K ta a) (hb : EvL K tb m) : ExS K (tPar i j (tCons ta (tCons tb tNil))) (xParDL i j a m) := fun l g o l' g' s H S r A e h D q => by
  replace e := mb_some e; obtain ⟨x, l1, g1, e1, e⟩ := e
  replace e := mb_some e; obtain ⟨y, l2, g2, e2, e⟩ := e
  cases e
  refine ha _ _ _ _ _ s H S r A e1 h _ fun v1 H1 S1 r1 A1 m1 h1 d1 => hb _ _ _ _ _ s H1 S1 r1 A1 e2 h1 _ fun p xs H2 S2 r2 A2 m2 h2 hp ht sp hx hd => ⟨_, _, rfl, q _ H2 S2 r2 _ ((m1.trans m2).set.fresh ?_) ((h2.setD (Dp_mono d1 m2.s)).freshL (fun z => ht (trset (.inl z))) (fun z => ht (.inr z)) sp hx hd)⟩
  cases hq : H p with
  | none => rfl
  | some u => exact absurd hp (m1.d p (some_ne hq))
theorem x_parLD {m : M (List PyData)} (ha : EvL K ta m) (hb : EvS K tb b) : ExS K (tPar i j (tCons ta (tCons tb tNil))) (xParLD i j m b) := fun l g o l' g' s H S r A e h D q => by
  replace e := mb_some e; obtain ⟨x, l1, g1, e1, e⟩ := e
  replace e := mb_some e; obtain ⟨y, l2, g2, e2, e⟩ := e
  cases e
  refine ha _ _ _ _ _ s H S r A e1 h _ fun p xs H1 S1 r1 A1 m1 h1 hp ht sp hx hd => hb _ _ _ _ _ s H1 S1 r1 A1 e2 h1 _ fun v2 H2 S2 r2 A2 m2 h2 d2 => ⟨_, _, rfl, q _ H2 S2 r2 _ ((m1.trans m2).fresh hp).set ((h2.freshL (fun z => ?_) (fun z => ?_) ?_ ?_ (DpAll_mono hd m2.s)).setD d2)⟩
  · exact (m2.f p (.inl z)).elim ht (some_ne hx)
  · exact (m2.f p (.inr z)).elim ht (some_ne hx)
  · exact m2.n p sp (some_ne hx) ht
  · exact m2.k p _ ht hx
theorem x_parLL {m m' : M (List PyData)} (hij : i ≠ j) (ha : EvL K ta m) (hb : EvL K tb m') : ExS K (tPar i j (tCons ta (tCons tb tNil))) (xParLL i j m m') := fun l g o l' g' s H S r A e h D q => by
  replace e := mb_some e; obtain ⟨x, l1, g1, e1, e⟩ := e
  replace e := mb_some e; obtain ⟨y, l2, g2, e2, e⟩ := e
  cases e
  refine ha _ _ _ _ _ s H S r A e1 h _ fun p xs H1 S1 r1 A1 m1 h1 hp ht sp hx hd => hb _ _ _ _ _ s H1 S1 r1 A1 e2 h1 _ fun p2 xs2 H2 S2 r2 A2 m2 h2 hp2 ht2 sp2 hx2 hd2 => ⟨_, _, rfl, q _ H2 S2 r2 _ (((m1.trans m2).fresh hp).fresh ?_) ((h2.freshL (fun z => ?_) (fun z => ?_) ?_ ?_ (DpAll_mono hd m2.s)).freshL ?_ (fun z => ht2 (.inr z)) sp2 hx2 hd2)⟩
  · cases hq : H p2 with
    | none => rfl
    | some u => exact absurd hp2 (m1.d p2 (some_ne hq))
  · exact (m2.f p (.inl z)).elim ht (some_ne hx)
  · exact (m2.f p (.inr z)).elim ht (some_ne hx)
  · exact m2.n p sp (some_ne hx) ht
  · exact m2.k p _ ht hx
  · intro z
    rcases List.mem_or_eq_of_mem_set z with z | z
    · exact ht2 (.inl z)
    · cases z; rw [hp2] at hx; cases hx
theorem x_parCL {m : M (List (Key × PyData))} {m' : M (List PyData)} (ha : EvC K ta m) (hb : EvL K tb m') : ExS K (tPar i j (tCons ta (tCons tb tNil))) (xParCL i j m m') := fun l g o l' g' s H S r A e h D q => by
  replace e := mb_some e; obtain ⟨x, l1, g1, e1, e⟩ := e
  replace e := mb_some e; obtain ⟨y, l2, g2, e2, e⟩ := e
  cases e
  refine ha _ _ _ _ _ s H S r A e1 h _ fun p xs H1 S1 r1 A1 m1 h1 hp ht sp hx hd => hb _ _ _ _ _ s H1 S1 r1 A1 e2 h1 _ fun p2 xs2 H2 S2 r2 A2 m2 h2 hp2 ht2 sp2 hx2 hd2 => ⟨_, _, rfl, q _ H2 S2 r2 _ (((m1.trans m2).fresh hp).fresh ?_) ((h2.freshC (fun z => ?_) (fun z => ?_) ?_ ?_ (hd.mono m2.s)).freshL ?_ (fun z => ht2 (.inr z)) sp2 hx2 hd2)⟩
  · cases hq : H p2 with
    | none => rfl
    | some u => exact absurd hp2 (m1.d p2 (some_ne hq))
  · exact (m2.f p (.inl z)).elim ht (some_ne hx)
  · exact (m2.f p (.inr z)).elim ht (some_ne hx)
  · exact m2.n p sp (some_ne hx) ht
  · exact m2.k p _ ht hx
  · intro z
    rcases List.mem_or_eq_of_mem_set z with z | z
    · exact ht2 (.inl z)
    · cases z; rw [hp2] at hx; cases hx
theorem x_par3 {tr : TA} {m : M (List PyData)} (ha : EvA K tr m) : ExS K (tPar3 i j k tr) (xPar3 i j k m) := fun l g o l' g' s H S r A e h D q => by
  replace e := mb_some e; obtain ⟨x, l1, g1, e1, e⟩ := e
  split at e
  · cases e
    refine ha _ _ _ _ _ s H S r A e1 h _ fun v1 H1 S1 r1 A1 m1 h1 d1 => ?_
    cases d1 with
    | cons q1 d2 => cases d2 with
      | cons q2 d3 => cases d3 with
        | cons q3 d4 =>
          cases d4
          exact ⟨_, _, _, rfl, q _ H1 S1 r1 _ m1.set.set.set (((h1.setD q1).setD q2).setD q3)⟩
  · cases e
end

/-! ### defs -/
def fnS (n : Nat) (x : X) : FS := fun as g => match x (as ++ List.replicate (n - as.length) .no) g with
  | some (.ret v, _, g') => some (v, g')
  | some (.nx, _, g') => some (.dat .none, g')
  | _ => none
theorem start_ok {K : PySem.W.Frag} {S H : Hp} {r : List Addr} {g : Sg} {N : List Str} {vs : List V} {as : List Vl} (hs : Same S H) (so : StoOk K S H r g) (hv : VsOk K S r vs as) : StOk K (as ++ List.replicate (N.length - as.length) .no) g (start N vs) H S r (List.replicate (as ++ List.replicate (N.length - as.length) Vl.no).length none) := by
  have hl := paired_len hv
  have key : ∀ {vs : List V} {as : List Vl}, VsOk K S r vs as → ∀ (i : Nat) (x : Vl), as[i]? = some x → ∃ w, (vs.map some)[i]? = some (some w) ∧ SOk K S H r x none (some w) := by
    intro vs as h
    induction h with
    | nil => intro i x e; simp at e
    | @cons v a vs as hva _ ih =>
      intro i x e
      cases i with
      | zero =>
        simp at e
        subst e
        refine ⟨v, rfl, ?_⟩
        cases a with
        | dat d => exact ⟨rfl, v, rfl, hva⟩
        | ref j => obtain ⟨a, e1, rfl⟩ := hva; exact ⟨rfl, a, e1, rfl⟩
        | no => cases hva
        | own ds => cases hva
        | dct ds => cases hva
      | succ i => simpa using ih i x (by simpa using e)
  refine ⟨hs, by simp, ?_, fun i x e => ?_, fun i j a e => ?_, fun a ha => ?_, so.1, so.2.1, so.2.2⟩
  · unfold L2.start
    simp [hl]
  · have hi : i < (as ++ List.replicate (N.length - as.length) Vl.no).length := (List.getElem?_eq_some_iff.mp e).1
    have hA : (List.replicate (as ++ List.replicate (N.length - as.length) Vl.no).length (none : Option Addr))[i]? = some none := by
      rw [List.getElem?_replicate, if_pos hi]
    by_cases hia : i < as.length
    · rw [List.getElem?_append_left hia] at e
      obtain ⟨w, e1, e2⟩ := key hv i x e
      refine ⟨none, some w, hA, ?_, e2⟩
      unfold L2.start
      rw [List.getElem?_append_left (by simp [hl]; exact hia)]
      exact e1
    · rw [List.getElem?_append_right (by omega), List.getElem?_replicate] at e
      split at e
      · rename_i hj
        cases e
        refine ⟨none, none, hA, ?_, rfl⟩
        unfold L2.start
        rw [List.getElem?_append_right (by simp [hl]; omega), List.getElem?_replicate, if_pos (by simp [hl]; exact hj)]
      · cases e
  · rw [List.getElem?_replicate] at e
    split at e <;> cases e
  · exact absurd (List.eq_of_mem_replicate ha) (by simp)
theorem run_fn {K : PySem.W.Frag} {ts : TS} {x : X} {N : List Str} {n m : Nat} {vs : List V} {H : Hp} {Q : VK} {E : XK} (hx : ExS K ts x) (hN : N.length = n) (h : spG K m (fnS n x) vs H Q E) : ts { nx := fun _ H' => Q .non H', rt := Q } (start N vs) H := by
  obtain ⟨S, r, g, as, v, g', hm, hs, so, hv, e, q⟩ := h
  subst hN
  have st := start_ok (N := N) hs so hv
  have tr0 : ∀ a, tr (List.replicate (as ++ List.replicate (N.length - as.length) Vl.no).length (none : Option Addr)) r a → a ∈ r := fun a z => z.elim (fun z => absurd (List.eq_of_mem_replicate z) (by simp)) id
  have gr : ∀ {S' H' : Hp} {r' : List Addr} {A' : List (Option Addr)} {l : Lo} {g : Sg} {s : L2.St}, Mv S H r (List.replicate (as ++ List.replicate (N.length - as.length) Vl.no).length none) S' H' r' A' → StOk K l g s H' S' r' A' → Grow (· ∈ r) S H S' H' ∧ (∃ q, r' = r ++ q) ∧ (∀ a, a ∈ r' → a ∈ r ∨ H a = none) ∧ StoOk K S' H' r' g := fun m st' => by
    refine ⟨⟨m.s, m.h, fun a e1 e2 => ?_, fun a o hm e => m.k a o (fun z => hm (tr0 a z)) e, m.d⟩, m.p, fun a ha => (m.f a (.inr ha)).imp (tr0 a) id, st'.rn, st'.lg, st'.st⟩
    by_cases ha : a ∈ r
    · obtain ⟨q, rfl⟩ := m.p
      exact (st'.thereR (List.mem_append_left _ ha)).2
    · exact m.n a e1 e2 fun z => ha (tr0 a z)
  unfold fnS at e
  split at e
  · rename_i v2 l2 g2 e2
    cases e
    refine hx _ _ _ _ _ _ H S r _ e2 st _ fun s' H' S' r' A' m' st' => ?_
    intro w hw
    obtain ⟨p1, p2, p3, p4⟩ := gr m' st'
    exact q w S' H' r' p1 p2 p3 p4 hw
  · rename_i l2 g2 e2
    cases e
    refine hx _ _ _ _ _ _ H S r _ e2 st _ fun s' H' S' r' A' m' st' => ?_
    obtain ⟨p1, p2, p3, p4⟩ := gr m' st'
    exact q .non S' H' r' p1 p2 p3 p4 .non
  · cases e
theorem spG_len {K : PySem.W.Frag} {n : Nat} {F : FS} {vs : List V} {H : Hp} {Q : VK} {E : XK} (h : spG K n F vs H Q E) : vs.length = n := by
  obtain ⟨S, r, g, as, v, g', hm, hs, so, hv, e, q⟩ := h
  rw [paired_len hv, hm]
theorem spG_mono {K : PySem.W.Frag} {n : Nat} {F F' : FS} (h : ∀ as g v g', F as g = some (v, g') → F' as g = some (v, g')) : ∀ vs H Q E, spG K n F vs H Q E → spG K n F' vs H Q E := fun vs H Q E ⟨S, r, g, as, v, g', hm, hs, so, hv, e, q⟩ => ⟨S, r, g, as, v, g', hm, hs, so, hv, h _ _ _ _ e, q⟩
end Sm

namespace Sm
open PySem PySem.Spec PyProof.Rows L2 RZ SrtO Dz

/-! ### built-in functions -/
def intsO : List PyData → Option (List Int)
  | [] => some []
  | .int i :: r => (intsO r).map (i :: ·)
  | _ => none
def boolsO : List PyData → Option (List Bool)
  | [] => some []
  | .bool i :: r => (boolsO r).map (i :: ·)
  | _ => none
theorem intsO_some : ∀ {ds : List PyData} {ns : List Int}, intsO ds = some ns → ds = ns.map .int
  | [], ns, h => by cases h; rfl
  | .int i :: r, ns, h => by
    obtain ⟨ms, e, rfl⟩ := Option.map_eq_some_iff.mp (show (intsO r).map (i :: ·) = some ns from h)
    rw [intsO_some e]; rfl
  | .none :: r, ns, h => by cases h
  | .bool _ :: r, ns, h => by cases h
  | .str _ :: r, ns, h => by cases h
  | .list _ :: r, ns, h => by cases h
  | .tuple _ :: r, ns, h => by cases h
  | .dict _ :: r, ns, h => by cases h
theorem boolsO_some : ∀ {ds : List PyData} {ns : List Bool}, boolsO ds = some ns → ds = ns.map .bool
  | [], ns, h => by cases h; rfl
  | .bool i :: r, ns, h => by
    obtain ⟨ms, e, rfl⟩ := Option.map_eq_some_iff.mp (show (boolsO r).map (i :: ·) = some ns from h)
    rw [boolsO_some e]; rfl
  | .none :: r, ns, h => by cases h
  | .int _ :: r, ns, h => by cases h
  | .str _ :: r, ns, h => by cases h
  | .list _ :: r, ns, h => by cases h
  | .tuple _ :: r, ns, h => by cases h
  | .dict _ :: r, ns, h => by cases h
theorem intsO_map : ∀ ns : List Int, intsO (ns.map .int) = some ns
  | [] => rfl
  | n :: ns => by show (intsO (ns.map .int)).map (n :: ·) = _; rw [intsO_map ns]; rfl
theorem boolsO_map : ∀ ns : List Bool, boolsO (ns.map .bool) = some ns
  | [] => rfl
  | n :: ns => by show (boolsO (ns.map .bool)).map (n :: ·) = _; rw [boolsO_map ns]; rfl
def lenD : List PyData → Option PyData
  | [.list ds] => some (.int ds.length)
  | [.tuple ds] => some (.int ds.length)
  | _ => none
def tupleD : List PyData → Option PyData
  | [.list ds] => some (.tuple ds)
  | [.tuple ds] => some (.tuple ds)
  | _ => none
def absD : List PyData → Option PyData
  | [.int i] => some (.int (if i < 0 then -i else i))
  | _ => none
def ofInts (f : List Int → Option PyData) : List PyData → Option PyData
  | [.list ds] => (intsO ds).bind f
  | _ => none
def ofBools (f : List Bool → Option PyData) : List PyData → Option PyData
  | [.list ds] => (boolsO ds).bind f
  | _ => none
def maxD := ofInts fun ns => if ns.isEmpty = true then none else some (.int (maxI ns))
def minD := ofInts fun ns => if ns.isEmpty = true then none else some (.int (minI ns))
def sumD := ofInts fun ns => some (.int ns.sum)
def sortedD := ofInts fun ns => some (.list ((sortI ns).map .int))
def allD := ofBools fun bs => some (.bool (bs.all id))
def anyD := ofBools fun bs => some (.bool (bs.any id))
def max2D : List PyData → Option PyData
  | [.int i, .int j] => some (.int (max i j))
  | _ => none
def min2D : List PyData → Option PyData
  | [.int i, .int j] => some (.int (min i j))
  | _ => none
def eIsi (T : String) (a : M PyData) : M PyData := mb a fun x => mo ((kitB (tyN x) T).map .bool)
section
variable {K : PySem.W.Frag} {ta te : TE} {a : M PyData}
theorem rc_len : RCO K (rLenK K) lenD := fun as c e => by
  unfold lenD at e
  split at e
  · cases e; exact rc_lenL
  · cases e; exact rc_lenT
  · cases e
theorem rc_tuple : RCO K (rTupleK K) tupleD := fun as c e => by
  unfold tupleD at e
  split at e
  · cases e; exact rc_tupleL
  · cases e; exact rc_tupleT
  · cases e
theorem rc_absD : RCO K (fun xs H Q => ∃ i, xs = [.int i] ∧ Q (.int (if i < 0 then -i else i)) H) absD := fun as c e => by
  unfold absD at e
  split at e
  · cases e; exact rc_abs
  · cases e
theorem ofInts_some {f : List Int → Option PyData} {as : List PyData} {c : PyData} (e : ofInts f as = some c) : ∃ ns, as = [.list (ns.map .int)] ∧ f ns = some c := by
  unfold ofInts at e
  split at e
  · obtain ⟨ns, e1, e2⟩ := Option.bind_eq_some_iff.mp e
    exact ⟨ns, by rw [intsO_some e1], e2⟩
  · cases e
theorem ofBools_some {f : List Bool → Option PyData} {as : List PyData} {c : PyData} (e : ofBools f as = some c) : ∃ ns, as = [.list (ns.map .bool)] ∧ f ns = some c := by
  unfold ofBools at e
  split at e
  · obtain ⟨ns, e1, e2⟩ := Option.bind_eq_some_iff.mp e
    exact ⟨ns, by rw [boolsO_some e1], e2⟩
  · cases e
theorem rc_maxD : RCO K (rMax K) maxD := fun as c e => by
  replace e := ofInts_some e; obtain ⟨ns, rfl, e⟩ := e
  split at e
  · cases e
  · rename_i h; cases e; exact rc_max fun z => h (by rw [z]; rfl)
theorem rc_minD : RCO K (rMin K) minD := fun as c e => by
  replace e := ofInts_some e; obtain ⟨ns, rfl, e⟩ := e
  split at e
  · cases e
  · rename_i h; cases e; exact rc_min fun z => h (by rw [z]; rfl)
theorem rc_sumD : RCO K (rSum K) sumD := fun as c e => by
  replace e := ofInts_some e; obtain ⟨ns, rfl, e⟩ := e
  cases e; exact rc_sum
theorem rc_sortedD : RCO K (rSortedI K) sortedD := fun as c e => by
  replace e := ofInts_some e; obtain ⟨ns, rfl, e⟩ := e
  cases e; exact rc_sorted
theorem rc_allD : RCO K (rAll K) allD := fun as c e => by
  replace e := ofBools_some e; obtain ⟨ns, rfl, e⟩ := e
  cases e; exact rc_all
theorem rc_anyD : RCO K (rAny K) anyD := fun as c e => by
  replace e := ofBools_some e; obtain ⟨ns, rfl, e⟩ := e
  cases e; exact rc_any
theorem rc_max2D : RCO K (fun xs H Q => ∃ i j, xs = [.int i, .int j] ∧ Q (.int (if j > i then j else i)) H) max2D := fun as c e => by
  unfold max2D at e
  split at e
  · cases e; exact rc_max2
  · cases e
theorem rc_min2D : RCO K (fun xs H Q => ∃ i j, xs = [.int i, .int j] ∧ Q (.int (if j < i then j else i)) H) min2D := fun as c e => by
  unfold min2D at e
  split at e
  · cases e; exact rc_min2
  · cases e
theorem s_isi {T : String} (ha : EvS K ta a) : EvS K (tCB (rIsi K) (tCons ta (tCons (tC (.ty T)) tNil))) (eIsi T a) := fun l g d l' g' s H S r A e h Q q => by
  replace e := mb_some e; obtain ⟨x, l1, g1, e1, e⟩ := e
  replace e := mo_some e; obtain ⟨e, rfl, rfl⟩ := e
  obtain ⟨k, hk, rfl⟩ := Option.map_eq_some_iff.mp e
  exact ha _ _ _ _ _ s H S r A e1 h _ fun v1 H1 S1 r1 A1 m1 h1 d1 => ⟨v1, .ty T, .type (tyN x), .type T, k, rfl, .ty T, tyX_of h1.hs d1, kit_ty hk, q _ H1 S1 r1 A1 m1 h1 (.bl k)⟩
end
/-! ### a new object of the store -/
def xNewL (i : Nat) (m : M (List PyData)) : X := mb m fun ds => fun l g => some (.nx, l.set i (.ref g.length), g ++ [.lst ds])
section
variable {K : PySem.W.Frag} {te : TE} {l : Lo} {g : Sg} {s : L2.St} {H S H0 S0 : Hp} {r r0 : List Addr} {A A0 : List (Option Addr)} {p : Addr} {o : Ob}
theorem StOk.newR (h : StOk K l g s H S r A) (ht : ¬ tr A r p) (sp : S p = none) (ok : ObOk K S H p o) : StOk K l (g ++ [o]) s H S (r ++ [p]) A :=
  h.move (Same.refl S) h.hs (fun a ha => ⟨(h.thereA ha).2, fun u e => e⟩) ⟨[p], rfl⟩ (by
    rw [List.nodup_append]
    refine ⟨h.rn, by simp, fun a ha b hb => ?_⟩
    simp at hb
    subst hb
    intro z
    subst z
    exact ht (.inr ha)) (fun a ha z => by
    rcases List.mem_append.mp z with z | z
    · exact h.dr a ha z
    · simp at z
      subst z
      exact ht (.inl ha)) (by simp [h.lg]) fun j a u e1 e2 => by
    by_cases hj : j < r.length
    · rw [List.getElem?_append_left hj] at e1
      rw [List.getElem?_append_left (by rw [← h.lg]; exact hj)] at e2
      exact h.st j a u e1 e2
    · have hj2 : j = r.length := by
        have := (List.getElem?_eq_some_iff.mp e1).1
        simp at this
        omega
      subst hj2
      rw [List.getElem?_append_right (Nat.le_refl _)] at e1
      rw [h.lg, List.getElem?_append_right (Nat.le_refl _)] at e2
      simp at e1 e2
      subst e1 e2
      exact ⟨sp, ok⟩
theorem Mv.newR (h : Mv S0 H0 r0 A0 S H r A) (hp : H0 p = none) : Mv S0 H0 r0 A0 S H (r ++ [p]) A :=
  ⟨h.s, h.h, h.n, h.k, h.d, by obtain ⟨q, e⟩ := h.p; exact ⟨q ++ [p], by rw [e, List.append_assoc]⟩, fun a z => by
    rcases z with z | z
    · exact h.f a (.inl z)
    · rcases List.mem_append.mp z with z | z
      · exact h.f a (.inr z)
      · simp at z
        subst z
        exact .inr hp⟩
theorem x_newL {i : Nat} {m : M (List PyData)} (he : EvL K te m) : ExS K (tAsg te (gName i)) (xNewL i m) := fun l g o l' g' s H S r A e h D q => by
  replace e := mb_some e; obtain ⟨d, l1, g1, e1, e⟩ := e
  cases e
  refine he _ _ _ _ _ s H S r A e1 h _ fun p xs H1 S1 r1 A1 m1 h1 hp ht sp hx hd => ?_
  have h2 := h1.newR (o := .lst d) ht sp ⟨xs, hx, hd⟩
  refine q _ H1 S1 (r1 ++ [p]) _ (m1.newR hp).set (h2.set (y := .ref g1.length) ⟨rfl, p, ?_, rfl⟩)
  rw [← h1.lg, List.getElem?_append_right (Nat.le_refl _)]
  simp
end
/-! ### keyword arguments -/
def kCall (F : FS) (gS : List Vl → List Vl → List Vl) (a k : M (List Vl)) : M Vl := mb a fun xs => mb k fun ks => fun l g => match F (gS xs ks) g with
  | none => none
  | some (v, g') => some (v, l, g')
def eCallK (F : FS) (gS : List Vl → List Vl → List Vl) (a k : M (List Vl)) : M PyData := eD (kCall F gS a k)
def gA {α : Type} (vs zs : List α) : List α := vs ++ zs
def gL {α : Type} (ds vs zs : List α) : List α := vs ++ zs ++ ds
def gH {α : Type} (ds vs zs : List α) : List α := vs ++ ds ++ zs
section
variable {K : PySem.W.Frag}
theorem vs_get {S : Hp} {r : List Addr} {vs : List V} {as : List Vl} (h : VsOk K S r vs as) : ∀ i, i < as.length → VOk K S r (vs.getD i .non) (as.getD i .no) := by
  induction h with
  | nil => intro i hi; simp at hi
  | @cons v a vs as hva _ ih =>
    intro i hi
    cases i with
    | zero => exact hva
    | succ i => simpa using ih i (by simpa using hi)
theorem vs_app {S : Hp} {r : List Addr} {vs ws : List V} {as bs : List Vl} (h : VsOk K S r vs as) (h2 : VsOk K S r ws bs) : VsOk K S r (vs ++ ws) (as ++ bs) := by
  induction h with
  | nil => exact h2
  | cons hva _ ih => exact .cons hva ih
theorem dp_dats {S : Hp} {r : List Addr} {dv : List V} {ds : List PyData} (h : DpAll K S dv ds) : VsOk K S r dv (ds.map .dat) := by
  cases h with
  | nil => exact .nil
  | cons h1 h2 => exact .cons h1 (dp_dats h2)
theorem s_callK {F : FS} {n m c : Nat} {E : XK} {tr tk : TA} {a k : M (List Vl)} {gv : List V → List V → List V} {gs : List Vl → List Vl → List Vl} (hg : ∀ S r vs zs as ks, VsOk K S r vs as → VsOk K S r zs ks → VsOk K S r (gv vs zs) (gs as ks)) (hc : ∀ as ks, as.length = n → ks.length = m → (gs as ks).length = c)
    (ha : EvVA K tr a) (hk : EvVA K tk k) (hn : ∀ l g xs l' g', a l g = some (xs, l', g') → xs.length = n) (hm : ∀ l g xs l' g', k l g = some (xs, l', g') → xs.length = m) :
    EvS K (tCallN n m (spG K c F) gv E tr tk) (eCallK F gs a k) := s_eD fun l g d l' g' s H S r A e h Q q => by
  replace e := mb_some e; obtain ⟨xs, l1, g1, e1, e⟩ := e
  replace e := mb_some e; obtain ⟨ks, l2, g2, e2, e⟩ := e
  split at e
  · cases e
  · rename_i v g3 e3
    cases e
    refine ha _ _ _ _ _ s H S r A e1 h _ fun vs H1 S1 r1 A1 m1 h1 d1 => hk _ _ _ _ _ s H1 S1 r1 A1 e2 h1 _ fun zs H2 S2 r2 A2 m2 h2 d2 => ?_
    have l1 := hn _ _ _ _ _ e1
    have l2 := hm _ _ _ _ _ e2
    refine ⟨by rw [paired_len d1, l1], by rw [paired_len d2, l2], ?_⟩
    exact call_at h2 (hg _ _ _ _ _ _ (d1.go m2.s m2.p) d2) (hc _ _ l1 l2) e3 fun w H3 S3 r3 m3 h3 d3 => q w H3 S3 r3 A2 ((m1.trans m2).trans m3) h3 d3
theorem hg_A : ∀ S r vs zs as ks, VsOk K S r vs as → VsOk K S r zs ks → VsOk K S r (gA vs zs) (gA as ks) := fun _ _ _ _ _ _ h1 h2 => vs_app h1 h2
theorem hg_L {dv : List V} {ds : List PyData} (hd : ∀ S, DpAll K S dv ds) : ∀ S r vs zs as ks, VsOk K S r vs as → VsOk K S r zs ks → VsOk K S r (gL dv vs zs) (gL (ds.map .dat) as ks) := fun S _ _ _ _ _ h1 h2 => vs_app (vs_app h1 h2) (dp_dats (hd S))
theorem hg_H {dv : List V} {ds : List PyData} (hd : ∀ S, DpAll K S dv ds) : ∀ S r vs zs as ks, VsOk K S r vs as → VsOk K S r zs ks → VsOk K S r (gH dv vs zs) (gH (ds.map .dat) as ks) := fun S _ _ _ _ _ h1 h2 => vs_app (vs_app h1 (dp_dats (hd S))) h2
/-- with all of them left out -/
def dCall (F : FS) (ds : List PyData) (a : M (List Vl)) : M Vl := mb a fun xs => fun l g => match F (xs ++ ds.map .dat) g with
  | none => none
  | some (v, g') => some (v, l, g')
def eCallD (F : FS) (ds : List PyData) (a : M (List Vl)) : M PyData := eD (dCall F ds a)
theorem s_callD {F : FS} {n c : Nat} {E : XK} {tr : TA} {a : M (List Vl)} {dv : List V} {ds : List PyData} (ha : EvVA K tr a) (hn : ∀ l g xs l' g', a l g = some (xs, l', g') → xs.length = n) (hd : ∀ S, DpAll K S dv ds) (hc : n + ds.length = c) : EvS K (tCall (spG K c F) dv E tr) (eCallD F ds a) := s_eD fun l g d l' g' s H S r A e h Q q => by
  replace e := mb_some e; obtain ⟨xs, l1, g1, e1, e⟩ := e
  split at e
  · cases e
  · rename_i v g3 e3
    cases e
    refine ha _ _ _ _ _ s H S r A e1 h _ fun vs H1 S1 r1 A1 m1 h1 d1 => ?_
    exact call_at h1 (vs_app d1 (dp_dats (hd S1))) (by rw [List.length_append, List.length_map, hn _ _ _ _ _ e1]; exact hc) e3 fun w H3 S3 r3 m3 h3 d3 => q w H3 S3 r3 A1 (m1.trans m3) h3 d3
end
/-! ### a if c else b as a test -/
def tIfT (c a b : TT) : TT := fun σ H Q => c σ H fun k H1 => if k = true then a σ H1 Q else b σ H1 Q
theorem pt_ifE {X : Cx} {c a b : Expr} {tc ta tb : TT} {pos : Pos} (hc : PT X c tc) (ha : PT X a ta) (hb : PT X b tb) : PT X (.IfExp c a b pos) (tIfT tc ta tb) := by
  refine ⟨fun pins s σ H Q I h => ?_⟩
  rw [PySem.isTrue.eq_def]
  intro Γ p hΓ
  show Sem.wp _ Γ (Sem.bind _ _) _ _ p s
  rw [Sem.wp_bind]
  refine Sem.wp_mono _ Γ _ (fun k p' s' q => ?_) (fun _ _ _ q => q) p s (hc.run pins s σ H _ I h Γ p hΓ)
  obtain ⟨H', I', q⟩ := q
  cases k with
  | true => exact ha.run pins s' σ H' Q I' q Γ p' hΓ
  | false => exact hb.run pins s' σ H' Q I' q Γ p' hΓ
def bIf (t u v : M Bool) : M Bool := mb t fun c => if c = true then u else v
section
variable {K : PySem.W.Frag}
/-- a cond as a test -/
theorem s_ifT {tt tu tv : TT} {t u v : M Bool} (ht : EvT K tt t) (hu : EvT K tu u) (hv : EvT K tv v) : EvT K (tIfT tt tu tv) (bIf t u v) := fun l g d l' g' s H S r A e h Q q => by
  replace e := mb_some e; obtain ⟨x, l1, g1, e1, e⟩ := e
  refine ht _ _ _ _ _ s H S r A e1 h _ fun H1 S1 r1 A1 m1 h1 => ?_
  cases x with
  | true => exact hu _ _ _ _ _ s H1 S1 r1 A1 e h1 _ fun H2 S2 r2 A2 m2 h2 => q H2 S2 r2 A2 (m1.trans m2) h2
  | false => exact hv _ _ _ _ _ s H1 S1 r1 A1 e h1 _ fun H2 S2 r2 A2 m2 h2 => q H2 S2 r2 A2 (m1.trans m2) h2
end
/-! ### constants of the top -/
def ConAt (K : PySem.W.Frag) (x : Str) (i : Int) : Prop := ∃ t, PySem.W.nsIn K mainGlobals x = some (some (.int i t))
theorem con_at {K : PySem.W.Frag} {x : Str} {i : Int} {t : Tok} (h : PySem.W.nsIn K mainGlobals x = some (some (.int i t))) : ConAt K x i := ⟨t, h⟩
def QCon (mg : Str → Option Value) (x : Str) (i : Int) : Prop := ∃ t, mg x = some (.int i t)
theorem ConAt.q {K : PySem.W.Frag} {x : Str} {i : Int} {h : Heap} {mg : Str → Option Value} (c : ConAt K x i) (X : K.In h) (G : h.Ns mainGlobals mg) : QCon mg x i := by
  obtain ⟨t, q⟩ := c
  exact ⟨t, PySem.W.mg_of X G q⟩
theorem cal_zero {P : Program} {w : World} {K : PySem.W.Frag} {mg : Str → Option Value} {base : Heap} {x : Str} {ps : List Str} {n : Nat} {f : Addr} {fd : FuncData} (hm : mg x = some (.ref f)) (hk : PySem.W.keepIn K (.ref f) = true) (hb : Binds K fd ps []) (k : Nat) : Cal P w K mg base k x ps (spG K n fun _ _ => none) :=
  (Cal.zero (fun vs H Q E h => by obtain ⟨_, _, _, _, _, _, _, _, _, _, e, _⟩ := h; cases e) hm hk hb).mono (Nat.zero_le k)
/-- the law's own promise -/
def spLaw (K : PySem.W.Frag) : Sp := fun vs H Q _ => ∃ (a : Addr) (ns : List Int), vs = [.ref a] ∧ SqL K H a (ns.map V.int) ∧ ns.length ≤ 63 ∧ ∀ H', Q (.bl true) H'
theorem law_of {P : Program} {w : World} {K : PySem.W.Frag} {mg : Str → Option Value} {base : Heap} {k : Nat} {f : Addr} {fd : FuncData} {ps : List Str} {F : FS} (h : FnOk P w K mg base CX0 k f fd ps (spG K 1 F)) (hF : ∀ ns : List Int, ns.length ≤ 63 → ∃ g, F [.dat (.list (ns.map .int))] [] = some (.dat (.bool true), g)) : FnOk P w K mg base CX0 k f fd ps (spLaw K) :=
  h.imp fun vs H Q E ⟨a, ns, e, hS, hl, q⟩ => by
    subst e
    obtain ⟨g, hg⟩ := hF ns hl
    refine ⟨H, [], [], [.dat (.list (ns.map .int))], _, g, rfl, Same.refl H, ⟨List.nodup_nil, rfl, fun j a o e => by simp at e⟩, .cons (.lst hS (DpAll_ints ns)) .nil, hg, fun w S' H' r' _ _ _ _ hw => ?_⟩
    cases hw
    exact q H'
end Sm

namespace Sm
open PySem PySem.Spec PyProof.Rows L2 RZ SrtO Dz
def intD : List PyData → Option PyData
  | [.int i] => some (.int i)
  | [.bool b] => some (.int (if b then 1 else 0))
  | _ => none
section
variable {K : PySem.W.Frag}
theorem rc_intD : RCO K (fun xs H Q => (∃ i, xs = [.int i] ∧ Q (.int i) H) ∨ ∃ k, xs = [.bl k] ∧ Q (.int (if k then 1 else 0)) H) intD := fun as c e => by
  unfold intD at e
  split at e
  · cases e
    exact fun vs S H Q hs hx q => by
      cases hx with
      | cons h1 h2 => cases h2; cases h1; exact .inl ⟨_, rfl, q _ S H (Grow.refl hs) (.int _)⟩
  · cases e
    exact fun vs S H Q hs hx q => by
      cases hx with
      | cons h1 h2 => cases h2; cases h1; exact .inr ⟨_, rfl, q _ S H (Grow.refl hs) (.int _)⟩
  · cases e
end
end Sm

/-! Sm8: the plain words step by step: what stands ahead is worked out first, what follows is left alone until then. -/
namespace Sm
open PySem PySem.Spec PyProof.Rows L2 RZ SrtO Dz
section
variable {α β γ : Type}
def ob (o : Option (α × Lo × Sg)) (f : α → Lo → Sg → Option β) : Option β := match o with
  | none => none
  | some (a, l, g) => f a l g
def oo (o : Option α) (f : α → Option β) : Option β := match o with
  | none => none
  | some a => f a
def os (o : Option (Out × Lo × Sg)) (f : Lo → Sg → Option (Out × Lo × Sg)) : Option (Out × Lo × Sg) := match o with
  | none => none
  | some (.nx, l, g) => f l g
  | some (o, l, g) => some (o, l, g)
/-- a turn's end, within a loop -/
def ol (o : Option (Out × Lo × Sg)) (f : Lo → Sg → Option (Out × Lo × Sg)) : Option (Out × Lo × Sg) := match o with
  | none => none
  | some (.nx, l, g) => f l g
  | some (.ct, l, g) => f l g
  | some (.bk, l, g) => some (.nx, l, g)
  | some (.ret v, l, g) => some (.ret v, l, g)
def of (o : Option (Out × Lo × Sg)) : Option (Vl × Sg) := match o with
  | some (.ret v, _, g) => some (v, g)
  | some (.nx, _, g) => some (.dat .none, g)
  | _ => none
def oc (o : Option (Vl × Sg)) (f : Vl → Sg → Option β) : Option β := match o with
  | none => none
  | some (v, g) => f v g
theorem ob_some {a : α} {l : Lo} {g : Sg} {f : α → Lo → Sg → Option β} : ob (some (a, l, g)) f = f a l g := rfl
theorem oo_some {a : α} {f : α → Option β} : oo (some a) f = f a := rfl
theorem os_nx {l : Lo} {g : Sg} {f : Lo → Sg → Option (Out × Lo × Sg)} : os (some (.nx, l, g)) f = f l g := rfl
theorem os_ret {v : Vl} {l : Lo} {g : Sg} {f : Lo → Sg → Option (Out × Lo × Sg)} : os (some (.ret v, l, g)) f = some (.ret v, l, g) := rfl
theorem os_bk {l : Lo} {g : Sg} {f : Lo → Sg → Option (Out × Lo × Sg)} : os (some (.bk, l, g)) f = some (.bk, l, g) := rfl
theorem os_ct {l : Lo} {g : Sg} {f : Lo → Sg → Option (Out × Lo × Sg)} : os (some (.ct, l, g)) f = some (.ct, l, g) := rfl
theorem ol_nx {l : Lo} {g : Sg} {f : Lo → Sg → Option (Out × Lo × Sg)} : ol (some (.nx, l, g)) f = f l g := rfl
theorem ol_ct {l : Lo} {g : Sg} {f : Lo → Sg → Option (Out × Lo × Sg)} : ol (some (.ct, l, g)) f = f l g := rfl
theorem ol_bk {l : Lo} {g : Sg} {f : Lo → Sg → Option (Out × Lo × Sg)} : ol (some (.bk, l, g)) f = some (.nx, l, g) := rfl
theorem ol_ret {v : Vl} {l : Lo} {g : Sg} {f : Lo → Sg → Option (Out × Lo × Sg)} : ol (some (.ret v, l, g)) f = some (.ret v, l, g) := rfl
theorem of_ret {v : Vl} {l : Lo} {g : Sg} : of (some (.ret v, l, g)) = some (v, g) := rfl
theorem of_nx {l : Lo} {g : Sg} : of (some (.nx, l, g)) = some (.dat .none, g) := rfl
theorem oc_some {v : Vl} {g : Sg} {f : Vl → Sg → Option β} : oc (some (v, g)) f = f v g := rfl
theorem ob_congr {o o' : Option (α × Lo × Sg)} {f : α → Lo → Sg → Option β} (h : o = o') : ob o f = ob o' f := by rw [h]
theorem oo_congr {o o' : Option α} {f : α → Option β} (h : o = o') : oo o f = oo o' f := by rw [h]
theorem os_congr {o o' : Option (Out × Lo × Sg)} {f : Lo → Sg → Option (Out × Lo × Sg)} (h : o = o') : os o f = os o' f := by rw [h]
theorem ol_congr {o o' : Option (Out × Lo × Sg)} {f : Lo → Sg → Option (Out × Lo × Sg)} (h : o = o') : ol o f = ol o' f := by rw [h]
theorem oc_congr {o o' : Option (Vl × Sg)} {f : Vl → Sg → Option β} (h : o = o') : oc o f = oc o' f := by rw [h]
variable {l : Lo} {g : Sg} {i j k : Nat} {f f' : PyData → PyData → Option PyData} {a b c e : M PyData} {t u v : M Bool} {m m' : M (List PyData)}
theorem mb_ob {p : M α} {q : α → M β} : mb p q l g = ob (p l g) fun x l1 g1 => q x l1 g1 := by
  unfold mb ob
  rfl
theorem mo_at {o : Option α} : mo o l g = oo o fun x => some (x, l, g) := by unfold mo oo; rfl
theorem mp_at {x : α} : mp x l g = some (x, l, g) := rfl
theorem mg_at {p : Lo → Sg → Option α} : mg p l g = oo (p l g) fun x => some (x, l, g) := by unfold mg oo; rfl
theorem eVar_at : eVar i l g = oo (l[i]?) fun x => oo (asD x) fun d => some (d, l, g) := by
  unfold eVar oo asD
  cases h : l[i]? with
  | none => rfl
  | some x => cases x <;> rfl
theorem eC_at {d : PyData} : eC d l g = some (d, l, g) := rfl
theorem eOp_at : eOp f a b l g = ob (a l g) fun x l1 g1 => ob (b l1 g1) fun y l2 g2 => oo (f x y) fun z => some (z, l2, g2) := rfl
theorem eUn_at {f : PyData → Option PyData} : eUn f a l g = ob (a l g) fun x l1 g1 => oo (f x) fun z => some (z, l1, g1) := rfl
theorem aNil_at : aNil l g = some ([], l, g) := rfl
theorem aCons_at : aCons a m l g = ob (a l g) fun x l1 g1 => ob (m l1 g1) fun xs l2 g2 => some (x :: xs, l2, g2) := rfl
theorem eCB_at {f : List PyData → Option PyData} : eCB f m l g = ob (m l g) fun xs l1 g1 => oo (f xs) fun z => some (z, l1, g1) := rfl
theorem eTup_at : eTup m l g = ob (m l g) fun xs l1 g1 => if xs.length ≤ 100000 then some (.tuple xs, l1, g1) else none := by
  unfold eTup mb ob
  cases m l g with
  | none => rfl
  | some x =>
    obtain ⟨xs, l1, g1⟩ := x
    show mo (smallO xs.length (PyData.tuple xs)) l1 g1 = if xs.length ≤ 100000 then some (.tuple xs, l1, g1) else none
    unfold smallO mo
    split <;> split <;> simp_all
theorem eL_at : eL m l g = ob (m l g) fun xs l1 g1 => some (.list xs, l1, g1) := rfl
theorem lLst_at : lLst m l g = ob (m l g) fun xs l1 g1 => if xs.length ≤ 100000 then some (xs, l1, g1) else none := by
  unfold lLst mb ob
  cases m l g with
  | none => rfl
  | some x =>
    obtain ⟨xs, l1, g1⟩ := x
    show mo (smallO xs.length xs) l1 g1 = if xs.length ≤ 100000 then some (xs, l1, g1) else none
    unfold smallO mo
    split <;> split <;> simp_all
theorem eIf_at : eIf t a b l g = ob (t l g) fun c l1 g1 => if c = true then a l1 g1 else b l1 g1 := by
  unfold eIf mb ob
  cases t l g with
  | none => rfl
  | some x => obtain ⟨c, l1, g1⟩ := x; cases c <;> rfl
theorem eAnd_at : eAnd a b l g = ob (a l g) fun x l1 g1 => oo (truO x) fun c => if c = true then b l1 g1 else some (x, l1, g1) := by
  show ob (a l g) (fun x l1 g1 => mb (mo (truO x)) (fun c => if c = true then b else mp x) l1 g1) = _
  refine congrArg (ob (a l g)) (funext fun x => funext fun l1 => funext fun g1 => ?_)
  cases h : truO x with
  | none => simp [mb, mo, oo]
  | some c => cases c <;> simp [mb, mo, oo, mp]
theorem eOr_at : eOr a b l g = ob (a l g) fun x l1 g1 => oo (truO x) fun c => if c = true then some (x, l1, g1) else b l1 g1 := by
  show ob (a l g) (fun x l1 g1 => mb (mo (truO x)) (fun c => if c = true then mp x else b) l1 g1) = _
  refine congrArg (ob (a l g)) (funext fun x => funext fun l1 => funext fun g1 => ?_)
  cases h : truO x with
  | none => simp [mb, mo, oo]
  | some c => cases c <;> simp [mb, mo, oo, mp]
theorem eNot_at : eNot a l g = ob (a l g) fun x l1 g1 => oo (truO x) fun c => some (.bool (!c), l1, g1) := by
  show ob (a l g) (fun x l1 g1 => mo ((truO x).map fun c => PyData.bool (!c)) l1 g1) = _
  refine congrArg (ob (a l g)) (funext fun x => funext fun l1 => funext fun g1 => ?_)
  cases h : truO x with
  | none => simp [mo, oo]
  | some c => simp [mo, oo]
theorem eIsN_at : eIsN a l g = ob (a l g) fun x l1 g1 => some (.bool (isN x), l1, g1) := rfl
theorem eNotN_at : eNotN a l g = ob (a l g) fun x l1 g1 => some (.bool (!isN x), l1, g1) := rfl
theorem eChain_at : eChain f f' a b c l g = ob (a l g) fun x l1 g1 => ob (b l1 g1) fun y l2 g2 => oo ((f x y).bind asB) fun z => if z = true then ob (c l2 g2) fun w l3 g3 => oo (f' y w) fun r => some (r, l3, g3) else some (.bool false, l2, g2) := by
  show ob (a l g) (fun x l1 g1 => ob (b l1 g1) fun y l2 g2 => mb (mo ((f x y).bind asB)) (fun z => if z = true then mb c fun w => mo (f' y w) else mp (.bool false)) l2 g2) = _
  refine congrArg (ob (a l g)) (funext fun x => funext fun l1 => funext fun g1 => congrArg (ob (b l1 g1)) (funext fun y => funext fun l2 => funext fun g2 => ?_))
  cases h : (f x y).bind asB with
  | none => simp [mb, mo, oo]
  | some z =>
    cases z with
    | false => simp [mb, mo, oo, mp]
    | true => simp only [mb, mo, oo, if_true]; rfl
theorem bTest_at : bTest a l g = ob (a l g) fun x l1 g1 => oo (asB x) fun z => some (z, l1, g1) := rfl
theorem bTru_at : bTru a l g = ob (a l g) fun x l1 g1 => oo (truO x) fun z => some (z, l1, g1) := rfl
theorem bNot_at : bNot t l g = ob (t l g) fun x l1 g1 => some (!x, l1, g1) := rfl
theorem bAnd_at : bAnd t u l g = ob (t l g) fun c l1 g1 => if c = true then u l1 g1 else some (false, l1, g1) := by
  unfold bAnd mb ob
  cases t l g with
  | none => rfl
  | some x => obtain ⟨c, l1, g1⟩ := x; cases c <;> rfl
theorem bOr_at : bOr t u l g = ob (t l g) fun c l1 g1 => if c = true then some (true, l1, g1) else u l1 g1 := by
  unfold bOr mb ob
  cases t l g with
  | none => rfl
  | some x => obtain ⟨c, l1, g1⟩ := x; cases c <;> rfl
theorem bIf_at : bIf t u v l g = ob (t l g) fun c l1 g1 => if c = true then u l1 g1 else v l1 g1 := by
  unfold bIf mb ob
  cases t l g with
  | none => rfl
  | some x => obtain ⟨c, l1, g1⟩ := x; cases c <;> rfl
theorem bYes_at : bYes l g = some (true, l, g) := rfl
theorem oNone_at : oNone l g = some (none, l, g) := rfl
theorem oSome_at : oSome a l g = ob (a l g) fun x l1 g1 => oo (asI x) fun z => some (some z, l1, g1) := by
  show ob (a l g) (fun x l1 g1 => mb (mo (asI x)) (fun i => mp (some i)) l1 g1) = _
  refine congrArg (ob (a l g)) (funext fun x => funext fun l1 => funext fun g1 => ?_)
  cases h : asI x with
  | none => simp [mb, mo, oo]
  | some c => simp [mb, mo, oo, mp]
variable {lo hi : M (Option Int)}
theorem eSl_at : eSl a lo hi l g = ob (a l g) fun x l1 g1 => ob (lo l1 g1) fun p l2 g2 => ob (hi l2 g2) fun q l3 g3 => oo (slD x p q) fun z => some (z, l3, g3) := rfl
theorem eIxV_at : eIxV i b l g = oo (lsV l g i) fun _ => ob (b l g) fun y l1 g1 => oo (lsV l1 g1 i) fun ds => oo (asI y) fun n => oo (atI ds n) fun d => some (d, l1, g1) := by
  show mb (mg fun l g => lsV l g i) (fun _ => mb b fun y => mg fun l g => (lsV l g i).bind fun ds => (asI y).bind fun k => atI ds k) l g = _
  rw [mb_ob, mg_at]
  cases h : lsV l g i with
  | none => rfl
  | some x =>
    show mb b _ l g = ob (b l g) _
    rw [mb_ob]
    refine congrArg (ob (b l g)) (funext fun y => funext fun l1 => funext fun g1 => ?_)
    rw [mg_at]
    cases h2 : lsV l1 g1 i with
    | none => simp [oo]
    | some ds =>
      cases h3 : asI y with
      | none => simp [oo]
      | some n => simp [oo]
theorem eLenV_at : eLenV i l g = oo (lsV l g i) fun ds => some (.int ds.length, l, g) := by
  cases h : lsV l g i <;> simp [eLenV, mg, oo, h]
theorem bTruV_at : bTruV i l g = oo (lsV l g i) fun ds => some (!ds.isEmpty, l, g) := by
  cases h : lsV l g i <;> simp [bTruV, mg, oo, h]
theorem eTupleV_at : eTupleV i l g = oo (lsV l g i) fun ds => some (.tuple ds, l, g) := by
  cases h : lsV l g i <;> simp [eTupleV, mg, oo, h]
theorem lListV_at : lListV i l g = oo (lsV l g i) fun ds => some (ds, l, g) := by
  cases h : lsV l g i <;> simp [lListV, mg, oo, h]
theorem eSlV_at : eSlV i lo hi l g = oo (lsV l g i) fun _ => ob (lo l g) fun x l1 g1 => ob (hi l1 g1) fun y l2 g2 => oo (lsV l2 g2 i) fun ds => some (.list (cutD ds x y), l2, g2) := by
  show mb (mg fun l g => lsV l g i) (fun _ => mb lo fun x => mb hi fun y => mg fun l g => (lsV l g i).map fun ds => PyData.list (cutD ds x y)) l g = _
  rw [mb_ob, mg_at]
  cases h : lsV l g i with
  | none => rfl
  | some x =>
    show mb lo _ l g = ob (lo l g) _
    rw [mb_ob]
    refine congrArg (ob (lo l g)) (funext fun y => funext fun l1 => funext fun g1 => ?_)
    rw [mb_ob]
    refine congrArg (ob (hi l1 g1)) (funext fun z => funext fun l2 => funext fun g2 => ?_)
    rw [mg_at]
    cases h2 : lsV l2 g2 i with
    | none => simp [oo]
    | some ds => simp [oo]
theorem eInV_at {n : Bool} : eInV n a i l g = ob (a l g) fun x l1 g1 => oo (lsV l1 g1 i) fun ds => oo (inFD n x (.list ds)) fun z => some (z, l1, g1) := by
  show ob (a l g) (fun x l1 g1 => mg (fun l g => (lsV l g i).bind fun ds => inFD n x (.list ds)) l1 g1) = _
  refine congrArg (ob (a l g)) (funext fun x => funext fun l1 => funext fun g1 => ?_)
  rw [mg_at]
  cases h2 : lsV l1 g1 i with
  | none => simp [oo]
  | some ds => simp [oo]
/-- the list that a slot stands for -/
def lsW (x : Vl) (g : Sg) : Option (List PyData) := match x with
  | .own ds => some ds
  | .ref j => oo (g[j]?) fun o => (match o with
    | .lst ds => some ds
    | _ => none)
  | .dat (.list ds) => some ds
  | _ => none
def lsN (x : Vl) (g : Sg) : Option (List PyData) := match x with
  | .own ds => some ds
  | .ref j => oo (g[j]?) fun o => (match o with
    | .lst ds => some ds
    | _ => none)
  | _ => none
theorem lsV_at : lsV l g i = oo (l[i]?) fun x => lsW x g := by
  unfold lsV oo lsW
  cases l[i]? with
  | none => rfl
  | some x =>
    cases x with
    | ref j =>
      show (match g[j]? with | some (.lst ds) => some ds | _ => none) = oo (g[j]?) _
      cases g[j]? with
      | none => rfl
      | some o => cases o <;> rfl
    | dat d => cases d <;> rfl
    | _ => rfl
theorem lsM_at : lsM l g i = oo (l[i]?) fun x => lsN x g := by
  unfold lsM oo lsN
  cases l[i]? with
  | none => rfl
  | some x =>
    cases x with
    | ref j =>
      show (match g[j]? with | some (.lst ds) => some ds | _ => none) = oo (g[j]?) _
      cases g[j]? with
      | none => rfl
      | some o => cases o <;> rfl
    | dat d => cases d <;> rfl
    | _ => rfl
theorem lsW_own {ds : List PyData} : lsW (.own ds) g = some ds := rfl
theorem lsW_dat {ds : List PyData} : lsW (.dat (.list ds)) g = some ds := rfl
theorem lsW_ref : lsW (.ref j) g = oo (g[j]?) fun o => (match o with
    | .lst ds => some ds
    | _ => none) := rfl
theorem lsN_own {ds : List PyData} : lsN (.own ds) g = some ds := rfl
theorem lsN_ref : lsN (.ref j) g = oo (g[j]?) fun o => (match o with
    | .lst ds => some ds
    | _ => none) := rfl
/-- a slot's list is put anew, then on -/
def pw (l : Lo) (g : Sg) (i : Nat) (ds : List PyData) (f : Lo → Sg → β) : β := match l[i]? with
  | some (.own _) => f (l.set i (.own ds)) g
  | some (.ref j) => f l (g.set j (.lst ds))
  | _ => f l g
theorem ptV_pw {ds : List PyData} {f : Lo → Sg → β} : f (ptV l g i ds).1 (ptV l g i ds).2 = pw l g i ds f := by
  unfold ptV pw
  cases l[i]? with
  | none => rfl
  | some x => cases x <;> rfl
theorem pw_own {ds es : List PyData} {f : Lo → Sg → β} (h : l[i]? = some (.own es)) : pw l g i ds f = f (l.set i (.own ds)) g := by unfold pw; rw [h]
theorem pw_ref {ds : List PyData} {f : Lo → Sg → β} (h : l[i]? = some (.ref j)) : pw l g i ds f = f l (g.set j (.lst ds)) := by unfold pw; rw [h]
theorem popAtO_at {y : PyData} : popAtO i y l g = oo (lsM l g i) fun ds => oo (asI y) fun k => oo (seqIndex? k ds.length) fun j => if k < 2 ^ 62 ∧ -(2 ^ 62) < k then oo (ds[j]?) fun d => pw l g i (ds.eraseIdx j) fun l' g' => some (d, l', g') else none := by
  unfold popAtO
  cases lsM l g i with
  | none => rfl
  | some ds =>
    cases asI y with
    | none => rfl
    | some k =>
      show (match seqIndex? k ds.length with | some j => _ | none => none) = oo (seqIndex? k ds.length) _
      cases seqIndex? k ds.length with
      | none => rfl
      | some j =>
        show (if _ then _ else _) = if _ then _ else _
        split
        · cases ds[j]? with
          | none => rfl
          | some d => exact ptV_pw (f := fun l' g' => some (d, l', g'))
        · rfl
theorem ePopAt_at : ePopAt i b l g = oo (lsM l g i) fun _ => ob (b l g) fun y l1 g1 => popAtO i y l1 g1 := by
  show mb (mg fun l g => lsM l g i) (fun _ => mb b fun y => popAtO i y) l g = _
  rw [mb_ob, mg_at]
  cases h : lsM l g i with
  | none => rfl
  | some x => rfl
theorem ePop_at : ePop i l g = oo (lsM l g i) fun ds => oo (ds[ds.length - 1]?) fun d => pw l g i ds.dropLast fun l' g' => some (d, l', g') := by
  unfold ePop
  cases lsM l g i with
  | none => rfl
  | some ds =>
    show (match ds[ds.length - 1]? with | some d => _ | none => none) = oo (ds[ds.length - 1]?) _
    cases ds[ds.length - 1]? with
    | none => rfl
    | some d => exact ptV_pw (f := fun l' g' => some (d, l', g'))
theorem iSq_at : iSq a l g = ob (a l g) fun x l1 g1 => oo (seqD x) fun z => some (z, l1, g1) := rfl
theorem rg1_at {x : PyData} : ((asI x).bind fun n => if rgO n = true then some (rng 0 n.toNat) else none) = oo (asI x) fun n => if rgO n = true then some (rng 0 n.toNat) else none := by cases asI x <;> rfl
theorem rg2_at {x y : PyData} : ((asI x).bind fun m => (asI y).bind fun n => if rgO m = true ∧ rgO n = true then some (rng m (n - m).toNat) else none) = oo (asI x) fun m => oo (asI y) fun n => if rgO m = true ∧ rgO n = true then some (rng m (n - m).toNat) else none := by
  cases asI x with
  | none => rfl
  | some m => cases asI y <;> rfl
theorem iRg1_at : iRg1 a l g = ob (a l g) fun x l1 g1 => oo (oo (asI x) fun n => if rgO n = true then some (rng 0 n.toNat) else none) fun z => some (z, l1, g1) := by
  show ob (a l g) (fun x l1 g1 => mo _ l1 g1) = _
  refine congrArg (ob (a l g)) (funext fun x => funext fun l1 => funext fun g1 => ?_)
  rw [mo_at, rg1_at]
theorem lListRg_at : lListRg a l g = ob (a l g) fun x l1 g1 => oo (oo (asI x) fun n => if rgO n = true then some (rng 0 n.toNat) else none) fun z => some (z, l1, g1) := iRg1_at
theorem iRg2_at : iRg2 a b l g = ob (a l g) fun x l1 g1 => ob (b l1 g1) fun y l2 g2 => oo (oo (asI x) fun m => oo (asI y) fun n => if rgO m = true ∧ rgO n = true then some (rng m (n - m).toNat) else none) fun z => some (z, l2, g2) := by
  show ob (a l g) (fun x l1 g1 => ob (b l1 g1) fun y l2 g2 => mo _ l2 g2) = _
  refine congrArg (ob (a l g)) (funext fun x => funext fun l1 => funext fun g1 => congrArg (ob (b l1 g1)) (funext fun y => funext fun l2 => funext fun g2 => ?_))
  rw [mo_at, rg2_at]
theorem lListRg2_at : lListRg2 a b l g = ob (a l g) fun x l1 g1 => ob (b l1 g1) fun y l2 g2 => oo (oo (asI x) fun m => oo (asI y) fun n => if rgO m = true ∧ rgO n = true then some (rng m (n - m).toNat) else none) fun z => some (z, l2, g2) := iRg2_at
def enL : PyData → Option (List PyData)
  | .list ds => some (enumD ds)
  | _ => none
def zpL : PyData → PyData → Option (List PyData)
  | .list ds, .list es => some (zipD ds es)
  | .tuple ds, .tuple es => some (zipD ds es)
  | _, _ => none
theorem iEn_at : iEn a l g = ob (a l g) fun x l1 g1 => oo (enL x) fun z => some (z, l1, g1) := by
  show ob (a l g) (fun x l1 g1 => mo _ l1 g1) = _
  refine congrArg (ob (a l g)) (funext fun x => funext fun l1 => funext fun g1 => ?_)
  rw [mo_at]
  rfl
theorem iZp_at : iZp a b l g = ob (a l g) fun x l1 g1 => ob (b l1 g1) fun y l2 g2 => oo (zpL x y) fun z => some (z, l2, g2) := by
  show ob (a l g) (fun x l1 g1 => ob (b l1 g1) fun y l2 g2 => mo _ l2 g2) = _
  refine congrArg (ob (a l g)) (funext fun x => funext fun l1 => funext fun g1 => congrArg (ob (b l1 g1)) (funext fun y => funext fun l2 => funext fun g2 => ?_))
  rw [mo_at]
  rfl
theorem lList_at : lList a l g = ob (a l g) fun x l1 g1 => oo (seqD x) fun z => some (z, l1, g1) := rfl
theorem lRep_at : lRep m b l g = ob (m l g) fun xs l1 g1 => ob (b l1 g1) fun y l2 g2 => oo (asI y) fun k => if (decide (k ≤ 1000) && decide (-1000 ≤ k) && decide (xs.length ≤ 100)) = true then some ((List.replicate k.toNat xs).flatten, l2, g2) else none := by
  show ob (m l g) (fun xs l1 g1 => ob (b l1 g1) fun y l2 g2 => mo _ l2 g2) = _
  refine congrArg (ob (m l g)) (funext fun x => funext fun l1 => funext fun g1 => congrArg (ob (b l1 g1)) (funext fun y => funext fun l2 => funext fun g2 => ?_))
  cases h : asI y with
  | none => simp [mo, oo]
  | some k => by_cases hc : (decide (k ≤ 1000) && decide (-1000 ≤ k) && decide (x.length ≤ 100)) = true <;> simp only [mo, oo, Option.bind_some, hc, if_true, if_false, Bool.false_eq_true]
def lcO (vs : List Nat) (tg : G) (t : M Bool) (e : M PyData) (ds : List PyData) (l : Lo) (g : Sg) : Option (List PyData × Lo × Sg) := if (plainAt vs l && decide (ds.length ≤ 100000)) = true then lcL vs tg t e ds l g else none
theorem lLc_at {vs : List Nat} {tg : G} : lLc vs m tg t e l g = ob (m l g) fun ds l1 g1 => lcO vs tg t e ds l1 g1 := rfl
theorem eCall_at {F : FS} {q : M (List Vl)} : eCall F q l g = ob (q l g) fun xs l1 g1 => oc (F xs g1) fun v g2 => oo (asD v) fun d => some (d, l1, g2) := by
  cases hq : q l g with
  | none => simp [eCall, eD, vCall, mb, ob, hq]
  | some x =>
    obtain ⟨xs, l1, g1⟩ := x
    cases hF : F xs g1 with
    | none => simp [eCall, eD, vCall, mb, ob, oc, hq, hF]
    | some y => obtain ⟨v, g2⟩ := y; cases hv : asD v <;> simp [eCall, eD, vCall, mb, ob, oc, oo, mo, hq, hF, hv]
theorem vCall_at {F : FS} {q : M (List Vl)} : vCall F q l g = ob (q l g) fun xs l1 g1 => oc (F xs g1) fun v g2 => some (v, l1, g2) := rfl
theorem vE_at : vE a l g = ob (a l g) fun d l1 g1 => some (.dat d, l1, g1) := rfl
def refO : Vl → Option Nat
  | .ref j => some j
  | _ => none
theorem vR_at : vR i l g = oo (l[i]?) fun x => oo (refO x) fun j => some (.ref j, l, g) := by
  cases h : l[i]? with
  | none => simp [vR, mg, oo, h]
  | some x => cases x <;> simp [vR, mg, oo, h, refO]
theorem vNil_at : vNil l g = some ([], l, g) := rfl
theorem vCons_at {x : M Vl} {q : M (List Vl)} : vCons x q l g = ob (x l g) fun y l1 g1 => ob (q l1 g1) fun ys l2 g2 => some (y :: ys, l2, g2) := rfl
theorem eCallK_at {F : FS} {gs : List Vl → List Vl → List Vl} {q q' : M (List Vl)} : eCallK F gs q q' l g = ob (q l g) fun xs l1 g1 => ob (q' l1 g1) fun ks l2 g2 => oc (F (gs xs ks) g2) fun v g3 => oo (asD v) fun d => some (d, l2, g3) := by
  cases hq : q l g with
  | none => simp [eCallK, eD, kCall, mb, ob, hq]
  | some x =>
    obtain ⟨xs, l1, g1⟩ := x
    cases hq' : q' l1 g1 with
    | none => simp [eCallK, eD, kCall, mb, ob, hq, hq']
    | some x =>
      obtain ⟨ks, l2, g2⟩ := x
      cases hF : F (gs xs ks) g2 with
      | none => simp [eCallK, eD, kCall, mb, ob, oc, hq, hq', hF]
      | some y => obtain ⟨v, g3⟩ := y; cases hv : asD v <;> simp [eCallK, eD, kCall, mb, ob, oc, oo, mo, hq, hq', hF, hv]
theorem eCallD_at {F : FS} {ds : List PyData} {q : M (List Vl)} : eCallD F ds q l g = ob (q l g) fun xs l1 g1 => oc (F (xs ++ ds.map .dat) g1) fun v g2 => oo (asD v) fun d => some (d, l1, g2) := by
  cases hq : q l g with
  | none => simp [eCallD, eD, dCall, mb, ob, hq]
  | some x =>
    obtain ⟨xs, l1, g1⟩ := x
    cases hF : F (xs ++ ds.map .dat) g1 with
    | none => simp [eCallD, eD, dCall, mb, ob, oc, hq, hF]
    | some y => obtain ⟨v, g2⟩ := y; cases hv : asD v <;> simp [eCallD, eD, dCall, mb, ob, oc, oo, mo, hq, hF, hv]
theorem eIsi_at {T : String} : eIsi T a l g = ob (a l g) fun x l1 g1 => oo (kitB (tyN x) T) fun c => some (.bool c, l1, g1) := by
  show ob (a l g) (fun x l1 g1 => mo _ l1 g1) = _
  refine congrArg (ob (a l g)) (funext fun x => funext fun l1 => funext fun g1 => ?_)
  unfold mo oo
  cases kitB (tyN x) T <;> rfl
variable {x y : X}
theorem xNext_at : xNext l g = some (.nx, l, g) := rfl
theorem xBreak_at : xBreak l g = some (.bk, l, g) := rfl
theorem xCont_at : xCont l g = some (.ct, l, g) := rfl
theorem xSeq_at : xSeq x y l g = os (x l g) fun l1 g1 => y l1 g1 := by
  unfold xSeq mb os
  cases x l g with
  | none => rfl
  | some o => obtain ⟨o, l1, g1⟩ := o; cases o <;> rfl
theorem xAsg_at : xAsg i e l g = ob (e l g) fun d l1 g1 => some (.nx, l1.set i (.dat d), g1) := rfl
theorem xAsgG_at {G : G} : xAsgG G e l g = ob (e l g) fun d l1 g1 => oo (G d l1) fun l2 => some (.nx, l2, g1) := by
  show ob (e l g) _ = _
  refine congrArg (ob (e l g)) (funext fun x => funext fun l1 => funext fun g1 => ?_)
  unfold oo
  cases G x l1 <;> rfl
theorem xAsgL_at : xAsgL i m l g = ob (m l g) fun ds l1 g1 => some (.nx, l1.set i (.own ds), g1) := rfl
theorem xAsgC_at {q : M (List (Key × PyData))} : xAsgC i q l g = ob (q l g) fun ds l1 g1 => some (.nx, l1.set i (.dct ds), g1) := rfl
theorem xNewL_at : xNewL i m l g = ob (m l g) fun ds l1 g1 => some (.nx, l1.set i (.ref g1.length), g1 ++ [.lst ds]) := rfl
theorem xIf_at : xIf t x y l g = ob (t l g) fun c l1 g1 => if c = true then x l1 g1 else y l1 g1 := by
  unfold xIf mb ob
  cases t l g with
  | none => rfl
  | some x => obtain ⟨c, l1, g1⟩ := x; cases c <;> rfl
theorem xRet_at : xRet e l g = ob (e l g) fun d l1 g1 => some (.ret (.dat d), l1, g1) := rfl
theorem xRetV_at {q : M Vl} : xRetV q l g = ob (q l g) fun d l1 g1 => some (.ret d, l1, g1) := rfl
theorem xRetN_at : xRetN l g = some (.ret (.dat .none), l, g) := rfl
theorem xDrop_at : xDrop e l g = ob (e l g) fun _ l1 g1 => some (.nx, l1, g1) := rfl
theorem appO_at {d : PyData} : appO i d l g = oo (lsM l g i) fun ds => if ds.length < 100000 then pw l g i (ds ++ [d]) fun l' g' => some (.nx, l', g') else none := by
  unfold appO oo
  cases lsM l g i with
  | none => rfl
  | some ds =>
    show (if _ then _ else _) = if _ then _ else _
    split
    · exact ptV_pw (f := fun l' g' => some (Out.nx, l', g'))
    · rfl
theorem xApp_at : xApp i e l g = oo (lsM l g i) fun _ => ob (e l g) fun d l1 g1 => appO i d l1 g1 := by
  show mb (mg fun l g => lsM l g i) (fun _ => mb e fun y => appO i y) l g = _
  rw [mb_ob, mg_at]
  cases h : lsM l g i with
  | none => rfl
  | some x => rfl
theorem setO_at {y d : PyData} : setO i y d l g = oo (lsM l g i) fun ds => oo (asI y) fun n => oo (ixN ds.length n) fun j => pw l g i (ds.set j d) fun l' g' => some (.nx, l', g') := by
  unfold setO
  cases lsM l g i with
  | none => rfl
  | some ds =>
    cases asI y with
    | none => rfl
    | some n =>
      show (match ixN ds.length n with | some j => _ | none => none) = oo (ixN ds.length n) _
      cases ixN ds.length n with
      | none => rfl
      | some j => exact ptV_pw (f := fun l' g' => some (Out.nx, l', g'))
theorem xSetI_at {k : M PyData} : xSetI i k e l g = ob (e l g) fun d l1 g1 => oo (lsM l1 g1 i) fun _ => ob (k l1 g1) fun y l2 g2 => setO i y d l2 g2 := by
  show ob (e l g) (fun d l1 g1 => mb (mg fun l g => lsM l g i) (fun _ => mb k fun y => setO i y d) l1 g1) = _
  refine congrArg (ob (e l g)) (funext fun d => funext fun l1 => funext fun g1 => ?_)
  rw [mb_ob, mg_at]
  cases h : lsM l1 g1 i with
  | none => rfl
  | some x => rfl
theorem xAug_at : xAug i f e l g = oo (l[i]?) fun z => oo (asD z) fun x => ob (e l g) fun y l1 g1 => oo (f x y) fun z => some (.nx, l1.set i (.dat z), g1) := by
  cases h : l[i]? with
  | none => simp [xAug, mb, eVar, oo, h]
  | some z =>
    cases h2 : z with
    | dat d =>
      subst h2
      cases he : e l g with
      | none => simp [xAug, mb, eVar, oo, ob, asD, h, he]
      | some y =>
        obtain ⟨y, l1, g1⟩ := y
        cases hf : f d y <;> simp [xAug, mb, mo, eVar, oo, ob, asD, h, he, hf]
    | no => subst h2; simp [xAug, mb, eVar, oo, asD, h]
    | own ds => subst h2; simp [xAug, mb, eVar, oo, asD, h]
    | dct ds => subst h2; simp [xAug, mb, eVar, oo, asD, h]
    | ref ds => subst h2; simp [xAug, mb, eVar, oo, asD, h]
theorem xFor_at {G : G} : xFor m G x l g = ob (m l g) fun ds l1 g1 => xForL G x ds l1 g1 := rfl
theorem xForL_nil {G : G} : xForL G x [] l g = some (.nx, l, g) := rfl
theorem xForL_cons {G : G} {d : PyData} {ds : List PyData} : xForL G x (d :: ds) l g = oo (G d l) fun l1 => ol (x l1 g) fun l2 g2 => xForL G x ds l2 g2 := by
  rw [xForL]
  cases h : G d l with
  | none => simp [oo, h]
  | some l1 =>
    cases hx : x l1 g with
    | none => simp [oo, ol, h, hx]
    | some o => obtain ⟨o, l2, g2⟩ := o; cases o <;> simp [oo, ol, h, hx]
theorem whF_at {n : Nat} : whF t x (n + 1) l g = ob (t l g) fun c l1 g1 => if c = true then ol (x l1 g1) fun l2 g2 => whF t x n l2 g2 else some (.nx, l1, g1) := by
  rw [whF]
  cases h : t l g with
  | none => simp [ob, h]
  | some c =>
    obtain ⟨c, l1, g1⟩ := c
    cases c with
    | false => simp [ob, h]
    | true =>
      cases hx : x l1 g1 with
      | none => simp [ob, ol, h, hx]
      | some o => obtain ⟨o, l2, g2⟩ := o; cases o <;> simp [ob, ol, h, hx]
theorem whF_mono : ∀ {n n' : Nat} {l : Lo} {g : Sg} {r : Out × Lo × Sg}, whF t x n l g = some r → n ≤ n' → whF t x n' l g = some r
  | 0, _, _, _, _, h, _ => by cases h
  | n + 1, 0, _, _, _, h, hn => by omega
  | n + 1, n' + 1, l, g, r, h, hn => by
    rw [whF_at] at h ⊢
    unfold ob at h ⊢
    cases ht : t l g with
    | none => rw [ht] at h; cases h
    | some c =>
      obtain ⟨c, l1, g1⟩ := c
      rw [ht] at h
      cases c with
      | false => exact h
      | true =>
        simp only [if_true] at h ⊢
        unfold ol at h ⊢
        cases hx : x l1 g1 with
        | none => rw [hx] at h; cases h
        | some o =>
          obtain ⟨o, l2, g2⟩ := o
          rw [hx] at h
          cases o with
          | nx => exact whF_mono (n := n) (n' := n') h (by omega)
          | ct => exact whF_mono (n := n) (n' := n') h (by omega)
          | bk => exact h
          | ret v => exact h
theorem xWhile_of {n : Nat} {r : Out × Lo × Sg} (h : whF t x n l g = some r) (hn : n ≤ 100000) : xWhile t x l g = some r := whF_mono h hn
theorem xFrz_own {es : List PyData} (h : l[i]? = some (.own es)) : xFrz i x l g = x (l.set i (.dat (.list es))) g := by unfold xFrz; rw [h]
theorem xFrz_dat {z : PyData} (h : l[i]? = some (.dat z)) : xFrz i x l g = x l g := by unfold xFrz; rw [h]
theorem xPar_at : xPar i j a b l g = ob (a l g) fun x l1 g1 => ob (b l1 g1) fun y l2 g2 => some (.nx, (l2.set i (.dat x)).set j (.dat y), g2) := rfl
theorem xParDL_at : xParDL i j a m l g = ob (a l g) fun x l1 g1 => ob (m l1 g1) fun y l2 g2 => some (.nx, (l2.set i (.dat x)).set j (.own y), g2) := rfl
theorem xParLD_at : xParLD i j m b l g = ob (m l g) fun x l1 g1 => ob (b l1 g1) fun y l2 g2 => some (.nx, (l2.set i (.own x)).set j (.dat y), g2) := rfl
theorem xParLL_at : xParLL i j m m' l g = ob (m l g) fun x l1 g1 => ob (m' l1 g1) fun y l2 g2 => some (.nx, (l2.set i (.own x)).set j (.own y), g2) := rfl
def t3 : List PyData → Option (PyData × PyData × PyData)
  | [x, y, z] => some (x, y, z)
  | _ => none
theorem xPar3_at : xPar3 i j k m l g = ob (m l g) fun xs l1 g1 => oo (t3 xs) fun p => some (.nx, ((l1.set i (.dat p.1)).set j (.dat p.2.1)).set k (.dat p.2.2), g1) := by
  show ob (m l g) _ = _
  refine congrArg (ob (m l g)) (funext fun xs => funext fun l1 => funext fun g1 => ?_)
  match xs with
  | [] => rfl
  | [_] => rfl
  | [_, _] => rfl
  | [_, _, _] => rfl
  | _ :: _ :: _ :: _ :: _ => rfl
theorem fnS_at {n : Nat} {as : List Vl} : fnS n x as g = of (x (as ++ List.replicate (n - as.length) .no) g) := by
  unfold fnS of
  rfl
variable {d : PyData} {ds : List PyData} {G : G} {gs : Gs}
theorem gNm_at : gNm i d l = some (l.set i (.dat d)) := rfl
theorem gTp_at {n : Nat} : gTp n gs (.tuple ds) l = if ds.length = n then gs ds l else none := rfl
theorem gsNil_at : gsNil [] l = some l := rfl
theorem gsCons_at : gsCons G gs (d :: ds) l = oo (G d l) fun l1 => gs ds l1 := by
  show (G d l).bind _ = _
  unfold oo
  cases G d l <;> rfl
theorem gSt_at {n : Nat} : gSt n i gs d l = oo (seqD d) fun ds => if n ≤ ds.length + 1 ∧ ds.length ≤ 16384 then gs (ds.take i ++ [.list ((ds.drop i).take (ds.length + 1 - n))] ++ (ds.drop i).drop (ds.length + 1 - n)) l else none := by
  unfold gSt oo
  cases seqD d <;> rfl
end
end Sm

namespace Sm
open PySem PySem.Spec PyProof.Rows L2 RZ SrtO Dz
/-! ### data, worked out -/
theorem eqD_ii {i j : Int} : eqD (.int i) (.int j) = some (.bool (decide (i = j))) := by
  unfold eqD
  rw [if_pos ⟨rfl, rfl⟩]
  show some (PyData.bool (i == j)) = _
  rw [Bool.beq_eq_decide_eq]
theorem eqD_bb {i j : Bool} : eqD (.bool i) (.bool j) = some (.bool (decide (i = j))) := by
  unfold eqD
  rw [if_pos ⟨rfl, rfl⟩]
  cases i <;> cases j <;> rfl
theorem eqD_ss {i j : Str} : eqD (.str i) (.str j) = some (.bool (decide (i = j))) := by
  unfold eqD
  split
  · show some (PyData.bool (i == j)) = _
    rw [Bool.beq_eq_decide_eq]
  · rfl
theorem eqD_is {i : Int} {j : Str} : eqD (.int i) (.str j) = some (.bool false) := by
  unfold eqD
  split <;> rfl
theorem eqD_si {i : Int} {j : Str} : eqD (.str j) (.int i) = some (.bool false) := by
  unfold eqD
  split <;> rfl
theorem eqD_sh {a b : PyData} (h1 : SeqAt.shaped a = true) (h2 : SeqAt.shaped b = true) : eqD a b = some (.bool (PyData.eqv a b)) := by
  unfold eqD
  rw [if_pos ⟨h1, h2⟩]
theorem neD_of {a b : PyData} {c : Bool} (h : eqD a b = some (.bool c)) : neD a b = some (.bool (!c)) := by unfold neD; rw [h]; rfl
theorem neD_ii {i j : Int} : neD (.int i) (.int j) = some (.bool (!decide (i = j))) := neD_of eqD_ii
theorem neD_ss {i j : Str} : neD (.str i) (.str j) = some (.bool (!decide (i = j))) := neD_of eqD_ss
theorem neD_is {i : Int} {j : Str} : neD (.int i) (.str j) = some (.bool true) := neD_of eqD_is
theorem neD_si {i : Int} {j : Str} : neD (.str j) (.int i) = some (.bool true) := neD_of eqD_si
theorem neD_bb {i j : Bool} : neD (.bool i) (.bool j) = some (.bool (!decide (i = j))) := neD_of eqD_bb
theorem truO_b {b : Bool} : truO (.bool b) = some b := rfl
theorem truO_l {ds : List PyData} : truO (.list ds) = some (!ds.isEmpty) := rfl
theorem truO_t {ds : List PyData} : truO (.tuple ds) = some (!ds.isEmpty) := rfl
theorem truO_n : truO .none = some false := rfl
theorem truO_i {i : Int} : truO (.int i) = some (i != 0) := rfl
theorem maxD_i {ns : List Int} (h : ns ≠ []) : maxD [.list (ns.map .int)] = some (.int (maxI ns)) := by
  show (intsO (ns.map .int)).bind _ = _
  rw [intsO_map]
  show (if _ then _ else _) = _
  rw [if_neg (by cases ns with | nil => exact absurd rfl h | cons => simp)]
theorem minD_i {ns : List Int} (h : ns ≠ []) : minD [.list (ns.map .int)] = some (.int (minI ns)) := by
  show (intsO (ns.map .int)).bind _ = _
  rw [intsO_map]
  show (if _ then _ else _) = _
  rw [if_neg (by cases ns with | nil => exact absurd rfl h | cons => simp)]
theorem sumD_i {ns : List Int} : sumD [.list (ns.map .int)] = some (.int ns.sum) := by
  show (intsO (ns.map .int)).bind _ = _
  rw [intsO_map]; rfl
theorem sortedD_i {ns : List Int} : sortedD [.list (ns.map .int)] = some (.list ((sortI ns).map .int)) := by
  show (intsO (ns.map .int)).bind _ = _
  rw [intsO_map]; rfl
theorem allD_b {ns : List Bool} : allD [.list (ns.map .bool)] = some (.bool (ns.all id)) := by
  show (boolsO (ns.map .bool)).bind _ = _
  rw [boolsO_map]; rfl
theorem anyD_b {ns : List Bool} : anyD [.list (ns.map .bool)] = some (.bool (ns.any id)) := by
  show (boolsO (ns.map .bool)).bind _ = _
  rw [boolsO_map]; rfl
/-! ### comprehensions, worked out -/
theorem backV_id {l l' : Lo} {vs : List Nat} (hl : l'.length = l.length) (h : ∀ j, j ∉ vs → l'[j]? = l[j]?) : backV l l' vs = l := by
  apply List.ext_getElem?
  intro j
  rw [backV_get]
  by_cases hj : j ∈ vs
  · rw [if_pos hj]
    by_cases hlt : j < l.length
    · rw [if_pos (by omega), List.getD_eq_getElem?_getD, List.getElem?_eq_getElem hlt]
      rfl
    · rw [if_neg (by omega), List.getElem?_eq_none (by omega)]
  · rw [if_neg hj]
    exact h j hj
theorem lcL_cons {vs : List Nat} {tg : G} {t : M Bool} {e : M PyData} {d : PyData} {ds : List PyData} {l : Lo} {g : Sg} : lcL vs tg t e (d :: ds) l g = oo (tg d (wipeV l vs)) fun l1 => ob (t l1 g) fun b l2 g2 => if b = true then ob (e l2 g2) fun y l3 g3 => ob (lcL vs tg t e ds (backV l l3 vs) g3) fun ys l4 g4 => some (y :: ys, l4, g4) else lcL vs tg t e ds (backV l l2 vs) g2 := by
  rw [lcL]
  cases h1 : tg d (wipeV l vs) with
  | none => simp [oo, h1]
  | some l1 =>
    cases h2 : t l1 g with
    | none => simp [oo, ob, h1, h2]
    | some b =>
      obtain ⟨b, l2, g2⟩ := b
      cases b with
      | false => simp [oo, ob, h1, h2]
      | true =>
        cases h3 : e l2 g2 with
        | none => simp [oo, ob, h1, h2, h3]
        | some y => simp [oo, ob, h1, h2, h3, mb, mp] <;> rfl
/-- an element that leaves all as it is -/
theorem lcL_pure {vs : List Nat} {tg : G} {t : M Bool} {e : M PyData} {l : Lo} {g : Sg} {q : PyData → Bool} {f : PyData → PyData} : ∀ {ds : List PyData}, (∀ d ∈ ds, ∃ l1, tg d (wipeV l vs) = some l1 ∧ backV l l1 vs = l ∧ t l1 g = some (q d, l1, g) ∧ (q d = true → e l1 g = some (f d, l1, g))) →
    lcL vs tg t e ds l g = some ((ds.filter q).map f, l, g)
  | [], _ => rfl
  | d :: ds, h => by
    obtain ⟨l1, e1, e2, e3, e4⟩ := h d List.mem_cons_self
    have ih := lcL_pure (ds := ds) fun d hd => h d (List.mem_cons_of_mem _ hd)
    rw [lcL_cons, e1, oo_some, e3, ob_some]
    cases hq : q d with
    | true =>
      rw [if_pos rfl, e4 hq, ob_some, e2, ih, ob_some, List.filter_cons, if_pos hq]
      rfl
    | false => rw [if_neg Bool.false_ne_true, e2, ih, List.filter_cons, if_neg (by rw [hq]; exact Bool.false_ne_true)]
theorem lcO_of {vs : List Nat} {tg : G} {t : M Bool} {e : M PyData} {l : Lo} {g : Sg} {ds : List PyData} {r : List PyData × Lo × Sg} (hp : plainAt vs l = true) (hz : ds.length ≤ 100000) (h : lcL vs tg t e ds l g = some r) : lcO vs tg t e ds l g = some r := by
  unfold lcO
  rw [if_pos (by rw [hp, decide_eq_true hz]; rfl), h]
/-- .. over one slot's name -/
theorem lcO_one {v : Nat} {t : M Bool} {e : M PyData} {l : Lo} {g : Sg} {α : Type} {xs : List α} {h : α → PyData} {q : α → Bool} {f : α → PyData} (hp : plainV (l.getD v .no) = true) (hz : xs.length ≤ 100000)
    (ht : ∀ x ∈ xs, t (l.set v (.dat (h x))) g = some (q x, l.set v (.dat (h x)), g)) (he : ∀ x ∈ xs, q x = true → e (l.set v (.dat (h x))) g = some (f x, l.set v (.dat (h x)), g)) : lcO [v] (gNm v) t e (xs.map h) l g = some ((xs.filter q).map f, l, g) := by
  refine lcO_of (by unfold plainAt; rw [List.all_cons, hp]; rfl) (by simpa using hz) ?_
  have hb : ∀ x : Vl, backV l (l.set v x) [v] = l := fun x => backV_id (by simp) fun j hj => List.getElem?_set_ne fun z => hj (by simp [z])
  have hw : ∀ d, gNm v d (wipeV l [v]) = some (l.set v (.dat d)) := fun d => by
    show some ((l.set v .no).set v (.dat d)) = _
    rw [List.set_set]
  induction xs with
  | nil => rfl
  | cons x xs ih =>
    have ih := ih (by simp at hz; omega) (fun x hx => ht x (List.mem_cons_of_mem _ hx)) (fun x hx => he x (List.mem_cons_of_mem _ hx))
    rw [List.map_cons, lcL_cons, hw, oo_some, ht x List.mem_cons_self, ob_some]
    cases hq : q x with
    | true =>
      rw [if_pos rfl, he x List.mem_cons_self hq, ob_some, hb, ih, ob_some, List.filter_cons, if_pos hq]
      rfl
    | false => rw [if_neg Bool.false_ne_true, hb, ih, List.filter_cons, if_neg (by rw [hq]; exact Bool.false_ne_true)]
/-- .. without a test -/
theorem lcO_map {v : Nat} {e : M PyData} {l : Lo} {g : Sg} {α : Type} {xs : List α} {h : α → PyData} {f : α → PyData} (hp : plainV (l.getD v .no) = true) (hz : xs.length ≤ 100000)
    (he : ∀ x ∈ xs, e (l.set v (.dat (h x))) g = some (f x, l.set v (.dat (h x)), g)) : lcO [v] (gNm v) bYes e (xs.map h) l g = some (xs.map f, l, g) := by
  have := lcO_one (t := bYes) (q := fun _ => true) (f := f) (h := h) hp hz (fun x _ => rfl) (fun x hx _ => he x hx)
  rwa [List.filter_eq_self.mpr fun _ _ => rfl] at this
/-! ### loops, worked out -/
/-- a for whose turns each lead on -/
theorem xForL_inv {G : G} {x : X} {ds : List PyData} {l : Lo} {g : Sg} (I : Nat → Lo → Sg → Prop) (h0 : I 0 l g) (hs : ∀ i d l g, ds[i]? = some d → I i l g → ∃ l1 l2 g2, G d l = some l1 ∧ (x l1 g = some (.nx, l2, g2) ∨ x l1 g = some (.ct, l2, g2)) ∧ I (i + 1) l2 g2) : ∃ l' g', xForL G x ds l g = some (.nx, l', g') ∧ I ds.length l' g' := by
  have key : ∀ n i l g, n = ds.length - i → i ≤ ds.length → I i l g → ∃ l' g', xForL G x (ds.drop i) l g = some (.nx, l', g') ∧ I ds.length l' g' := by
    intro n
    induction n with
    | zero =>
      intro i l g hn hi hI
      have : i = ds.length := by omega
      subst this
      rw [List.drop_length]
      exact ⟨l, g, rfl, hI⟩
    | succ n ih =>
      intro i l g hn hi hI
      have hlt : i < ds.length := by omega
      rw [List.drop_eq_getElem_cons hlt, xForL_cons]
      obtain ⟨l1, l2, g2, e1, e2, e3⟩ := hs i ds[i] l g (List.getElem?_eq_getElem hlt) hI
      rw [e1, oo_some]
      rcases e2 with e2 | e2
      · rw [e2, ol_nx]
        exact ih (i + 1) l2 g2 (by omega) hlt e3
      · rw [e2, ol_ct]
        exact ih (i + 1) l2 g2 (by omega) hlt e3
  simpa using key ds.length 0 l g (by omega) (Nat.zero_le _) h0
/-- a while by a measure -/
theorem xWhile_inv {t : M Bool} {x : X} {l : Lo} {g : Sg} {α : Type} (lf : α → Lo) (gf : α → Sg) (I : α → Prop) (mu : α → Nat) (P : Out → Lo → Sg → Prop) (x0 : α) (h0 : I x0) (el : l = lf x0) (eg : g = gf x0) (hm : mu x0 < 100000)
    (hs : ∀ a, I a → (∃ l1 g1, t (lf a) (gf a) = some (false, l1, g1) ∧ P .nx l1 g1) ∨ (∃ l1 g1, t (lf a) (gf a) = some (true, l1, g1) ∧ ((∃ b, (x l1 g1 = some (.nx, lf b, gf b) ∨ x l1 g1 = some (.ct, lf b, gf b)) ∧ I b ∧ mu b < mu a) ∨ (∃ l2 g2, x l1 g1 = some (.bk, l2, g2) ∧ P .nx l2 g2) ∨ (∃ v l2 g2, x l1 g1 = some (.ret v, l2, g2) ∧ P (.ret v) l2 g2)))) :
    ∃ o l' g', xWhile t x l g = some (o, l', g') ∧ P o l' g' := by
  subst el eg
  have key : ∀ n a, mu a < n → I a → ∃ o l' g', whF t x n (lf a) (gf a) = some (o, l', g') ∧ P o l' g' := by
    intro n
    induction n with
    | zero => intro a h; omega
    | succ n ih =>
      intro a hn hI
      rw [whF_at]
      rcases hs a hI with ⟨l1, g1, e1, e2⟩ | ⟨l1, g1, e1, e2⟩
      · exact ⟨.nx, l1, g1, by rw [e1]; rfl, e2⟩
      · rw [e1, ob_some, if_pos rfl]
        rcases e2 with ⟨b, e3, e4, e5⟩ | ⟨l2, g2, e3, e4⟩ | ⟨v, l2, g2, e3, e4⟩
        · obtain ⟨o, l', g', q1, q2⟩ := ih b (by omega) e4
          rcases e3 with e3 | e3
          · exact ⟨o, l', g', by rw [e3, ol_nx]; exact q1, q2⟩
          · exact ⟨o, l', g', by rw [e3, ol_ct]; exact q1, q2⟩
        · exact ⟨.nx, l2, g2, by rw [e3, ol_bk], e4⟩
        · exact ⟨.ret v, l2, g2, by rw [e3, ol_ret], e4⟩
  obtain ⟨o, l', g', q1, q2⟩ := key (mu x0 + 1) x0 (Nat.lt_succ_self _) h0
  exact ⟨o, l', g', xWhile_of q1 (by omega), q2⟩
/-! ### what is put, what is frozen, worked out -/
section
variable {β : Type} {l : Lo} {g : Sg} {i j : Nat} {ds es : List PyData} {f : Lo → Sg → β} {x : X}
def pk (o : Option Vl) (l : Lo) (g : Sg) (i : Nat) (ds : List PyData) (f : Lo → Sg → β) : β := match o with
  | some (.own _) => f (l.set i (.own ds)) g
  | some (.ref j) => f l (g.set j (.lst ds))
  | _ => f l g
theorem pw_at : pw l g i ds f = pk (l[i]?) l g i ds f := rfl
theorem pk_own : pk (some (.own es)) l g i ds f = f (l.set i (.own ds)) g := rfl
theorem pk_ref : pk (some (.ref j)) l g i ds f = f l (g.set j (.lst ds)) := rfl
theorem pk_congr {o o' : Option Vl} (h : o = o') : pk o l g i ds f = pk o' l g i ds f := by rw [h]
def fz (o : Option Vl) (i : Nat) (x : X) (l : Lo) (g : Sg) : Option (Out × Lo × Sg) := match o with
  | some (.own ds) => x (l.set i (.dat (.list ds))) g
  | _ => x l g
theorem xFrz_at : xFrz i x l g = fz (l[i]?) i x l g := rfl
theorem fz_own : fz (some (.own ds)) i x l g = x (l.set i (.dat (.list ds))) g := rfl
theorem fz_dat {d : PyData} : fz (some (.dat d)) i x l g = x l g := rfl
theorem fz_congr {o o' : Option Vl} (h : o = o') : fz o i x l g = fz o' i x l g := by rw [h]
end
/-! ### conditions that arithmetic decides -/
section
variable {α : Type} {x y : α}
theorem c_leN {a b : Nat} (h : a ≤ b) : (if a ≤ b then x else y) = x := if_pos h
theorem c_leN' {a b : Nat} (h : ¬ a ≤ b) : (if a ≤ b then x else y) = y := if_neg h
theorem c_ltN {a b : Nat} (h : a < b) : (if a < b then x else y) = x := if_pos h
theorem c_ltN' {a b : Nat} (h : ¬ a < b) : (if a < b then x else y) = y := if_neg h
theorem c_eqN {a b : Nat} (h : a = b) : (if a = b then x else y) = x := if_pos h
theorem c_eqN' {a b : Nat} (h : ¬ a = b) : (if a = b then x else y) = y := if_neg h
theorem c_leI {a b : Int} (h : a ≤ b) : (if a ≤ b then x else y) = x := if_pos h
theorem c_leI' {a b : Int} (h : ¬ a ≤ b) : (if a ≤ b then x else y) = y := if_neg h
theorem c_ltI {a b : Int} (h : a < b) : (if a < b then x else y) = x := if_pos h
theorem c_ltI' {a b : Int} (h : ¬ a < b) : (if a < b then x else y) = y := if_neg h
theorem c_eqI {a b : Int} (h : a = b) : (if a = b then x else y) = x := if_pos h
theorem c_eqI' {a b : Int} (h : ¬ a = b) : (if a = b then x else y) = y := if_neg h
theorem c_andLN {a b c d : Nat} (h : a ≤ b ∧ c ≤ d) : (if a ≤ b ∧ c ≤ d then x else y) = x := if_pos h
theorem c_andLI {a b c d : Int} (h : a < b ∧ c < d) : (if a < b ∧ c < d then x else y) = x := if_pos h
theorem c_rgO {n : Int} (h : n ≤ 100000 ∧ -100000 ≤ n) : rgO n = true := by unfold rgO; simp [h]
theorem c_dleI {a b : Int} (h : a ≤ b) : decide (a ≤ b) = true := decide_eq_true h
theorem c_dltI {a b : Int} (h : a < b) : decide (a < b) = true := decide_eq_true h
theorem c_dleI' {a b : Int} (h : ¬ a ≤ b) : decide (a ≤ b) = false := decide_eq_false h
theorem c_dltI' {a b : Int} (h : ¬ a < b) : decide (a < b) = false := decide_eq_false h
theorem c_deqI {a b : Int} (h : a = b) : decide (a = b) = true := decide_eq_true h
theorem c_deqI' {a b : Int} (h : ¬ a = b) : decide (a = b) = false := decide_eq_false h
theorem atI_in {ds : List PyData} {k : Int} (h : 0 ≤ k) : atI ds k = ds[k.toNat]? := by
  unfold atI ixN
  rw [if_pos h]
  by_cases hk : k < ds.length
  · rw [if_pos hk]; rfl
  · rw [if_neg hk, List.getElem?_eq_none (by omega)]; rfl
theorem ixN_in {n : Nat} {k : Int} (h : 0 ≤ k ∧ k < n) : ixN n k = some k.toNat := by
  unfold ixN
  rw [if_pos h.1, if_pos h.2]
theorem seqIx_in {n : Nat} {k : Int} (h : 0 ≤ k ∧ k < n) : seqIndex? k n = some k.toNat := by
  have := seqIndex_of (k := k) (n := n) h.1 (by omega)
  simpa using this
end
theorem seq_step {x y : X} {l l1 : Lo} {g g1 : Sg} {R : Option (Out × Lo × Sg)} (h : x l g = some (.nx, l1, g1)) (h2 : y l1 g1 = R) : xSeq x y l g = R := by
  rw [xSeq_at, h, os_nx]; exact h2
theorem seq_ret {x y : X} {l l1 : Lo} {g g1 : Sg} {v : Vl} (h : x l g = some (.ret v, l1, g1)) : xSeq x y l g = some (.ret v, l1, g1) := by
  rw [xSeq_at, h, os_ret]
theorem seq_bk {x y : X} {l l1 : Lo} {g g1 : Sg} (h : x l g = some (.bk, l1, g1)) : xSeq x y l g = some (.bk, l1, g1) := by
  rw [xSeq_at, h, os_bk]
theorem seq_ct {x y : X} {l l1 : Lo} {g g1 : Sg} (h : x l g = some (.ct, l1, g1)) : xSeq x y l g = some (.ct, l1, g1) := by
  rw [xSeq_at, h, os_ct]
/-- what a def's run gives back -/
def Rt (x : X) (l : Lo) (g : Sg) (v : Vl) (g' : Sg) : Prop := ∃ l1, x l g = some (.ret v, l1, g')
theorem fn_ret {n : Nat} {x : X} {as : List Vl} {g g1 : Sg} {v : Vl} {l : Lo} (hl : as ++ List.replicate (n - as.length) .no = l) (h : Rt x l g v g1) : fnS n x as g = some (v, g1) := by
  obtain ⟨l1, h⟩ := h
  rw [fnS_at, hl, h, of_ret]
theorem rt_seq {x y : X} {l l1 : Lo} {g g1 g' : Sg} {v : Vl} (h : x l g = some (.nx, l1, g1)) (h2 : Rt y l1 g1 v g') : Rt (xSeq x y) l g v g' := by
  obtain ⟨l2, h2⟩ := h2
  exact ⟨l2, seq_step h h2⟩
theorem rt_now {x y : X} {l : Lo} {g g' : Sg} {v : Vl} (h : Rt x l g v g') : Rt (xSeq x y) l g v g' := by
  obtain ⟨l2, h2⟩ := h
  exact ⟨l2, seq_ret h2⟩
theorem rt_ret {e : M PyData} {l l1 : Lo} {g g' : Sg} {d : PyData} (h : e l g = some (d, l1, g')) : Rt (xRet e) l g (.dat d) g' := ⟨l1, by rw [xRet_at, h, ob_some]⟩
theorem rt_ift {t : M Bool} {x y : X} {l l1 : Lo} {g g1 g' : Sg} {v : Vl} (h : t l g = some (true, l1, g1)) (h2 : Rt x l1 g1 v g') : Rt (xIf t x y) l g v g' := by
  obtain ⟨l2, h2⟩ := h2
  exact ⟨l2, by rw [xIf_at, h, ob_some, if_pos rfl]; exact h2⟩
theorem rt_iff {t : M Bool} {x y : X} {l l1 : Lo} {g g1 g' : Sg} {v : Vl} (h : t l g = some (false, l1, g1)) (h2 : Rt y l1 g1 v g') : Rt (xIf t x y) l g v g' := by
  obtain ⟨l2, h2⟩ := h2
  exact ⟨l2, by rw [xIf_at, h, ob_some, if_neg Bool.false_ne_true]; exact h2⟩
theorem rt_frz {i : Nat} {x : X} {l : Lo} {g g' : Sg} {v : Vl} {ds : List PyData} (h : l[i]? = some (.own ds)) (h2 : Rt x (l.set i (.dat (.list ds))) g v g') : Rt (xFrz i x) l g v g' := by
  obtain ⟨l2, h2⟩ := h2
  exact ⟨l2, by rw [xFrz_at, h, fz_own]; exact h2⟩
theorem rt_is {x : X} {l : Lo} {g g1 g2 : Sg} {v w : Vl} (h : Rt x l g v g1) (e : v = w) (eg : g1 = g2) : Rt x l g w g2 := by subst e eg; exact h
end Sm

namespace Sm
open PySem PySem.Spec PyProof.Rows L2 RZ SrtO Dz
/-! ### the plain words by rules: what each comes to, part by part -/
section
variable {α β : Type} {l l1 l2 l3 : Lo} {g g1 g2 g3 : Sg} {i j k : Nat} {f f' : PyData → PyData → Option PyData} {a b c e : M PyData} {t u v : M Bool} {m m' : M (List PyData)} {d d1 d2 d3 : PyData} {ds es : List PyData} {p q : Bool}
theorem eVar_ev (h : l[i]? = some (.dat d)) : eVar i l g = some (d, l, g) := by rw [eVar_at, h]; rfl
theorem eC_ev : eC d l g = some (d, l, g) := rfl
theorem eOp_ev (h1 : a l g = some (d1, l1, g1)) (h2 : b l1 g1 = some (d2, l2, g2)) (h3 : f d1 d2 = some d) : eOp f a b l g = some (d, l2, g2) := by rw [eOp_at, h1, ob_some, h2, ob_some, h3]; rfl
theorem eUn_ev {f : PyData → Option PyData} (h1 : a l g = some (d1, l1, g1)) (h3 : f d1 = some d) : eUn f a l g = some (d, l1, g1) := by rw [eUn_at, h1, ob_some, h3]; rfl
theorem aNil_ev : aNil l g = some ([], l, g) := rfl
theorem aCons_ev (h1 : a l g = some (d1, l1, g1)) (h2 : m l1 g1 = some (ds, l2, g2)) : aCons a m l g = some (d1 :: ds, l2, g2) := by rw [aCons_at, h1, ob_some, h2]; rfl
theorem eCB_ev {f : List PyData → Option PyData} (h1 : m l g = some (ds, l1, g1)) (h3 : f ds = some d) : eCB f m l g = some (d, l1, g1) := by rw [eCB_at, h1, ob_some, h3]; rfl
theorem eTup_ev (h1 : m l g = some (ds, l1, g1)) (h : ds.length ≤ 100000) : eTup m l g = some (.tuple ds, l1, g1) := by rw [eTup_at, h1, ob_some, if_pos h]
theorem eL_ev (h1 : m l g = some (ds, l1, g1)) : eL m l g = some (.list ds, l1, g1) := by rw [eL_at, h1]; rfl
theorem lLst_ev (h1 : m l g = some (ds, l1, g1)) (h : ds.length ≤ 100000) : lLst m l g = some (ds, l1, g1) := by rw [lLst_at, h1, ob_some, if_pos h]
theorem eIf_T (h : t l g = some (p, l1, g1)) (hp : p = true) (h2 : a l1 g1 = some (d, l2, g2)) : eIf t a b l g = some (d, l2, g2) := by rw [eIf_at, h, ob_some, if_pos hp]; exact h2
theorem eIf_F (h : t l g = some (p, l1, g1)) (hp : p = false) (h2 : b l1 g1 = some (d, l2, g2)) : eIf t a b l g = some (d, l2, g2) := by rw [eIf_at, h, ob_some, if_neg (by rw [hp]; exact Bool.false_ne_true)]; exact h2
theorem eIf_C (h : t l g = some (p, l, g)) (h1 : p = true → a l g = some (d1, l, g)) (h2 : p = false → b l g = some (d2, l, g)) : eIf t a b l g = some (if p then d1 else d2, l, g) := by
  rw [eIf_at, h, ob_some]
  cases p with
  | true => rw [if_pos rfl, h1 rfl]; rfl
  | false => rw [if_neg Bool.false_ne_true, h2 rfl]; rfl
theorem eAnd_T (h : a l g = some (d1, l1, g1)) (ht : truO d1 = some true) (h2 : b l1 g1 = some (d, l2, g2)) : eAnd a b l g = some (d, l2, g2) := by rw [eAnd_at, h, ob_some, ht, oo_some, if_pos rfl]; exact h2
theorem eAnd_F (h : a l g = some (d1, l1, g1)) (ht : truO d1 = some false) : eAnd a b l g = some (d1, l1, g1) := by rw [eAnd_at, h, ob_some, ht, oo_some, if_neg Bool.false_ne_true]
theorem eAnd_B (h : a l g = some (.bool p, l1, g1)) (h2 : p = true → b l1 g1 = some (.bool q, l1, g1)) : eAnd a b l g = some (.bool (p && q), l1, g1) := by
  rw [eAnd_at, h, ob_some]
  cases p with
  | true => exact h2 rfl
  | false => rfl
theorem eOr_T (h : a l g = some (d1, l1, g1)) (ht : truO d1 = some true) : eOr a b l g = some (d1, l1, g1) := by rw [eOr_at, h, ob_some, ht, oo_some, if_pos rfl]
theorem eOr_F (h : a l g = some (d1, l1, g1)) (ht : truO d1 = some false) (h2 : b l1 g1 = some (d, l2, g2)) : eOr a b l g = some (d, l2, g2) := by rw [eOr_at, h, ob_some, ht, oo_some, if_neg Bool.false_ne_true]; exact h2
theorem eOr_B (h : a l g = some (.bool p, l1, g1)) (h2 : p = false → b l1 g1 = some (.bool q, l1, g1)) : eOr a b l g = some (.bool (p || q), l1, g1) := by
  rw [eOr_at, h, ob_some]
  cases p with
  | true => rfl
  | false => exact h2 rfl
theorem eNot_ev (h : a l g = some (d1, l1, g1)) (ht : truO d1 = some p) : eNot a l g = some (.bool (!p), l1, g1) := by rw [eNot_at, h, ob_some, ht]; rfl
theorem eIsN_ev (h : a l g = some (d1, l1, g1)) : eIsN a l g = some (.bool (isN d1), l1, g1) := by rw [eIsN_at, h]; rfl
theorem eNotN_ev (h : a l g = some (d1, l1, g1)) : eNotN a l g = some (.bool (!isN d1), l1, g1) := by rw [eNotN_at, h]; rfl
theorem eChain_B (h1 : a l g = some (d1, l1, g1)) (h2 : b l1 g1 = some (d2, l2, g2)) (h3 : f d1 d2 = some (.bool p)) (h4 : c l2 g2 = some (d3, l2, g2)) (h5 : f' d2 d3 = some (.bool q)) : eChain f f' a b c l g = some (.bool (p && q), l2, g2) := by
  rw [eChain_at, h1, ob_some, h2, ob_some, h3]
  cases p with
  | true => show ob (c l2 g2) _ = _; rw [h4, ob_some, h5]; rfl
  | false => rfl
theorem bTest_ev (h : a l g = some (.bool p, l1, g1)) : bTest a l g = some (p, l1, g1) := by rw [bTest_at, h]; rfl
theorem bTru_ev (h : a l g = some (d1, l1, g1)) (ht : truO d1 = some p) : bTru a l g = some (p, l1, g1) := by rw [bTru_at, h, ob_some, ht]; rfl
theorem bNot_ev (h : t l g = some (p, l1, g1)) : bNot t l g = some (!p, l1, g1) := by rw [bNot_at, h]; rfl
theorem bAnd_B (h : t l g = some (p, l1, g1)) (h2 : p = true → u l1 g1 = some (q, l1, g1)) : bAnd t u l g = some (p && q, l1, g1) := by
  rw [bAnd_at, h, ob_some]
  cases p with
  | true => rw [if_pos rfl, h2 rfl]; rfl
  | false => rfl
theorem bAnd_F (h : t l g = some (p, l1, g1)) (hp : p = false) : bAnd t u l g = some (false, l1, g1) := by rw [bAnd_at, h, ob_some, if_neg (by rw [hp]; exact Bool.false_ne_true)]
theorem bAnd_T (h : t l g = some (p, l1, g1)) (hp : p = true) (h2 : u l1 g1 = some (q, l2, g2)) : bAnd t u l g = some (q, l2, g2) := by rw [bAnd_at, h, ob_some, if_pos hp]; exact h2
theorem bOr_B (h : t l g = some (p, l1, g1)) (h2 : p = false → u l1 g1 = some (q, l1, g1)) : bOr t u l g = some (p || q, l1, g1) := by
  rw [bOr_at, h, ob_some]
  cases p with
  | true => rfl
  | false => rw [if_neg Bool.false_ne_true, h2 rfl]; rfl
theorem bOr_T (h : t l g = some (p, l1, g1)) (hp : p = true) : bOr t u l g = some (true, l1, g1) := by rw [bOr_at, h, ob_some, if_pos hp]
theorem bOr_F (h : t l g = some (p, l1, g1)) (hp : p = false) (h2 : u l1 g1 = some (q, l2, g2)) : bOr t u l g = some (q, l2, g2) := by rw [bOr_at, h, ob_some, if_neg (by rw [hp]; exact Bool.false_ne_true)]; exact h2
theorem bYes_ev : bYes l g = some (true, l, g) := rfl
theorem oNone_ev : oNone l g = some (none, l, g) := rfl
theorem oSome_ev {n : Int} (h : a l g = some (.int n, l1, g1)) : oSome a l g = some (some n, l1, g1) := by rw [oSome_at, h]; rfl
variable {lo hi : M (Option Int)} {x y : Option Int}
theorem eSl_ev (h1 : a l g = some (d1, l1, g1)) (h2 : lo l1 g1 = some (x, l2, g2)) (h3 : hi l2 g2 = some (y, l3, g3)) (h4 : slD d1 x y = some d) : eSl a lo hi l g = some (d, l3, g3) := by rw [eSl_at, h1, ob_some, h2, ob_some, h3, ob_some, h4]; rfl
theorem eIxV_ev {n : Int} (h0 : lsV l g i = some es) (h1 : b l g = some (.int n, l1, g1)) (h2 : lsV l1 g1 i = some ds) (h3 : atI ds n = some d) : eIxV i b l g = some (d, l1, g1) := by rw [eIxV_at, h0, oo_some, h1, ob_some, h2, oo_some]; show oo (atI ds n) _ = _; rw [h3]; rfl
theorem eLenV_ev (h : lsV l g i = some ds) : eLenV i l g = some (.int ds.length, l, g) := by rw [eLenV_at, h]; rfl
theorem bTruV_ev (h : lsV l g i = some ds) : bTruV i l g = some (!ds.isEmpty, l, g) := by rw [bTruV_at, h]; rfl
theorem eTupleV_ev (h : lsV l g i = some ds) : eTupleV i l g = some (.tuple ds, l, g) := by rw [eTupleV_at, h]; rfl
theorem lListV_ev (h : lsV l g i = some ds) : lListV i l g = some (ds, l, g) := by rw [lListV_at, h]; rfl
theorem eSlV_ev (h0 : lsV l g i = some es) (h2 : lo l g = some (x, l1, g1)) (h3 : hi l1 g1 = some (y, l2, g2)) (h : lsV l2 g2 i = some ds) : eSlV i lo hi l g = some (.list (cutD ds x y), l2, g2) := by rw [eSlV_at, h0, oo_some, h2, ob_some, h3, ob_some, h]; rfl
theorem eInV_ev {n : Bool} (h1 : a l g = some (d1, l1, g1)) (h2 : lsV l1 g1 i = some ds) (h3 : inFD n d1 (.list ds) = some d) : eInV n a i l g = some (d, l1, g1) := by rw [eInV_at, h1, ob_some, h2, oo_some, h3]; rfl
theorem ePopAt_ev {n : Int} (h0 : lsM l g i = some es) (h1 : b l g = some (.int n, l1, g1)) (h2 : lsM l1 g1 i = some ds) (h3 : seqIndex? n ds.length = some j) (hn : n < 2 ^ 62 ∧ -(2 ^ 62) < n) (h4 : ds[j]? = some d) : ePopAt i b l g = some (d, (ptV l1 g1 i (ds.eraseIdx j)).1, (ptV l1 g1 i (ds.eraseIdx j)).2) := by
  rw [ePopAt_at, h0, oo_some, h1, ob_some]
  unfold popAtO
  rw [h2]
  show (match seqIndex? n ds.length with | some j => _ | none => none) = _
  rw [h3]
  show (if _ then _ else _) = _
  rw [if_pos hn, h4]
theorem ePop_ev (h2 : lsM l g i = some ds) (h4 : ds[ds.length - 1]? = some d) : ePop i l g = some (d, (ptV l g i ds.dropLast).1, (ptV l g i ds.dropLast).2) := by
  unfold ePop
  rw [h2]
  show (match ds[ds.length - 1]? with | some d => _ | none => none) = _
  rw [h4]
theorem iSq_ev (h : a l g = some (d1, l1, g1)) (h2 : seqD d1 = some ds) : iSq a l g = some (ds, l1, g1) := by rw [iSq_at, h, ob_some, h2]; rfl
theorem lList_ev (h : a l g = some (d1, l1, g1)) (h2 : seqD d1 = some ds) : lList a l g = some (ds, l1, g1) := iSq_ev h h2
theorem iRg1_ev {n : Int} (h : a l g = some (.int n, l1, g1)) (hn : n ≤ 100000 ∧ -100000 ≤ n) : iRg1 a l g = some (rng 0 n.toNat, l1, g1) := by
  rw [iRg1_at, h, ob_some]
  show oo (if rgO n = true then _ else _) _ = _
  rw [if_pos (c_rgO hn)]; rfl
theorem lListRg_ev {n : Int} (h : a l g = some (.int n, l1, g1)) (hn : n ≤ 100000 ∧ -100000 ≤ n) : lListRg a l g = some (rng 0 n.toNat, l1, g1) := iRg1_ev h hn
theorem iRg2_ev {n n' : Int} (h : a l g = some (.int n, l1, g1)) (h' : b l1 g1 = some (.int n', l2, g2)) (hn : n ≤ 100000 ∧ -100000 ≤ n) (hn' : n' ≤ 100000 ∧ -100000 ≤ n') : iRg2 a b l g = some (rng n (n' - n).toNat, l2, g2) := by
  rw [iRg2_at, h, ob_some, h', ob_some]
  show oo (if rgO n = true ∧ rgO n' = true then _ else _) _ = _
  rw [if_pos ⟨c_rgO hn, c_rgO hn'⟩]; rfl
theorem lListRg2_ev {n n' : Int} (h : a l g = some (.int n, l1, g1)) (h' : b l1 g1 = some (.int n', l2, g2)) (hn : n ≤ 100000 ∧ -100000 ≤ n) (hn' : n' ≤ 100000 ∧ -100000 ≤ n') : lListRg2 a b l g = some (rng n (n' - n).toNat, l2, g2) := iRg2_ev h h' hn hn'
theorem iEn_ev (h : a l g = some (.list ds, l1, g1)) : iEn a l g = some (enumD ds, l1, g1) := by rw [iEn_at, h]; rfl
theorem iZp_T (h : a l g = some (.tuple ds, l1, g1)) (h2 : b l1 g1 = some (.tuple es, l2, g2)) : iZp a b l g = some (zipD ds es, l2, g2) := by rw [iZp_at, h, ob_some, h2]; rfl
theorem iZp_L (h : a l g = some (.list ds, l1, g1)) (h2 : b l1 g1 = some (.list es, l2, g2)) : iZp a b l g = some (zipD ds es, l2, g2) := by rw [iZp_at, h, ob_some, h2]; rfl
theorem lRep_ev {n : Int} (h : m l g = some (ds, l1, g1)) (h2 : b l1 g1 = some (.int n, l2, g2)) (hn : n ≤ 1000 ∧ -1000 ≤ n) (hd : ds.length ≤ 100) : lRep m b l g = some ((List.replicate n.toNat ds).flatten, l2, g2) := by
  rw [lRep_at, h, ob_some, h2, ob_some]
  show (if _ then _ else _) = _
  rw [if_pos (by simp [hn.1, hn.2, hd])]
theorem lLc_ev {vs : List Nat} {tg : G} (h : m l g = some (ds, l1, g1)) (h2 : lcO vs tg t e ds l1 g1 = some (es, l2, g2)) : lLc vs m tg t e l g = some (es, l2, g2) := by rw [lLc_at, h, ob_some]; exact h2
variable {F : FS} {w z : M (List Vl)} {xs ys : List Vl} {s : Vl} {r : M Vl}
theorem eCall_ev (h1 : w l g = some (xs, l1, g1)) (h2 : F xs g1 = some (.dat d, g2)) : eCall F w l g = some (d, l1, g2) := by rw [eCall_at, h1, ob_some, h2]; rfl
theorem eCallK_ev {gs : List Vl → List Vl → List Vl} (h1 : w l g = some (xs, l1, g1)) (h1' : z l1 g1 = some (ys, l2, g2)) (h2 : F (gs xs ys) g2 = some (.dat d, g3)) : eCallK F gs w z l g = some (d, l2, g3) := by rw [eCallK_at, h1, ob_some, h1', ob_some, h2]; rfl
theorem eCallD_ev {cs : List PyData} (h1 : w l g = some (xs, l1, g1)) (h2 : F (xs ++ cs.map .dat) g1 = some (.dat d, g2)) : eCallD F cs w l g = some (d, l1, g2) := by rw [eCallD_at, h1, ob_some, h2]; rfl
theorem vCall_ev (h1 : w l g = some (xs, l1, g1)) (h2 : F xs g1 = some (s, g2)) : vCall F w l g = some (s, l1, g2) := by rw [vCall_at, h1, ob_some, h2]; rfl
theorem vE_ev (h : a l g = some (d, l1, g1)) : vE a l g = some (.dat d, l1, g1) := by rw [vE_at, h]; rfl
theorem vR_ev (h : l[i]? = some (.ref j)) : vR i l g = some (.ref j, l, g) := by rw [vR_at, h]; rfl
theorem vNil_ev : vNil l g = some ([], l, g) := rfl
theorem vCons_ev (h1 : r l g = some (s, l1, g1)) (h2 : w l1 g1 = some (xs, l2, g2)) : vCons r w l g = some (s :: xs, l2, g2) := by rw [vCons_at, h1, ob_some, h2]; rfl
theorem eIsi_ev {T : String} (h : a l g = some (d, l1, g1)) (h2 : kitB (tyN d) T = some p) : eIsi T a l g = some (.bool p, l1, g1) := by rw [eIsi_at, h, ob_some, h2]; rfl
/-! statements -/
variable {A B : Sm.X} {o : Out}
theorem xNext_ev : xNext l g = some (.nx, l, g) := rfl
theorem xBreak_ev : xBreak l g = some (.bk, l, g) := rfl
theorem xCont_ev : xCont l g = some (.ct, l, g) := rfl
theorem xAsg_ev (h : e l g = some (d, l1, g1)) : xAsg i e l g = some (.nx, l1.set i (.dat d), g1) := by rw [xAsg_at, h]; rfl
theorem xAsgG_ev {G : G} (h : e l g = some (d, l1, g1)) (h2 : G d l1 = some l2) : xAsgG G e l g = some (.nx, l2, g1) := by rw [xAsgG_at, h, ob_some, h2]; rfl
theorem xAsgL_ev (h : m l g = some (ds, l1, g1)) : xAsgL i m l g = some (.nx, l1.set i (.own ds), g1) := by rw [xAsgL_at, h]; rfl
theorem xNewL_ev (h : m l g = some (ds, l1, g1)) : xNewL i m l g = some (.nx, l1.set i (.ref g1.length), g1 ++ [.lst ds]) := by rw [xNewL_at, h]; rfl
theorem xIf_T (h : t l g = some (p, l1, g1)) (hp : p = true) (h2 : A l1 g1 = some (o, l2, g2)) : xIf t A B l g = some (o, l2, g2) := by rw [xIf_at, h, ob_some, if_pos hp]; exact h2
theorem xIf_F (h : t l g = some (p, l1, g1)) (hp : p = false) (h2 : B l1 g1 = some (o, l2, g2)) : xIf t A B l g = some (o, l2, g2) := by rw [xIf_at, h, ob_some, if_neg (by rw [hp]; exact Bool.false_ne_true)]; exact h2
theorem xDrop_ev (h : e l g = some (d, l1, g1)) : xDrop e l g = some (.nx, l1, g1) := by rw [xDrop_at, h]; rfl
theorem xApp_ev (h0 : lsM l g i = some es) (h : e l g = some (d, l1, g1)) (h2 : lsM l1 g1 i = some ds) (hz : ds.length < 100000) : xApp i e l g = some (.nx, (ptV l1 g1 i (ds ++ [d])).1, (ptV l1 g1 i (ds ++ [d])).2) := by
  rw [xApp_at, h0, oo_some, h, ob_some]
  unfold appO
  rw [h2]
  show (if _ then _ else _) = _
  rw [if_pos hz]
theorem xSetI_ev {n : Int} (h : e l g = some (d, l1, g1)) (h0 : lsM l1 g1 i = some es) (h1 : b l1 g1 = some (.int n, l2, g2)) (h2 : lsM l2 g2 i = some ds) (h3 : ixN ds.length n = some j) : xSetI i b e l g = some (.nx, (ptV l2 g2 i (ds.set j d)).1, (ptV l2 g2 i (ds.set j d)).2) := by
  rw [xSetI_at, h, ob_some, h0, oo_some, h1, ob_some]
  unfold setO
  rw [h2]
  show (match ixN ds.length n with | some j => _ | none => none) = _
  rw [h3]
theorem xAug_ev (h0 : l[i]? = some (.dat d1)) (h : e l g = some (d2, l1, g1)) (h3 : f d1 d2 = some d) : xAug i f e l g = some (.nx, l1.set i (.dat d), g1) := by rw [xAug_at, h0, oo_some]; show ob (e l g) _ = _; rw [h, ob_some, h3]; rfl
theorem xFor_ev {G : G} (h : m l g = some (ds, l1, g1)) (h2 : xForL G A ds l1 g1 = some (o, l2, g2)) : xFor m G A l g = some (o, l2, g2) := by rw [xFor_at, h, ob_some]; exact h2
theorem xSeq_ev (h : A l g = some (.nx, l1, g1)) (h2 : B l1 g1 = some (o, l2, g2)) : xSeq A B l g = some (o, l2, g2) := seq_step h h2
theorem xPar_ev (h1 : a l g = some (d1, l1, g1)) (h2 : b l1 g1 = some (d2, l2, g2)) : xPar i j a b l g = some (.nx, (l2.set i (.dat d1)).set j (.dat d2), g2) := by rw [xPar_at, h1, ob_some, h2]; rfl
theorem xParDL_ev (h1 : a l g = some (d1, l1, g1)) (h2 : m l1 g1 = some (ds, l2, g2)) : xParDL i j a m l g = some (.nx, (l2.set i (.dat d1)).set j (.own ds), g2) := by rw [xParDL_at, h1, ob_some, h2]; rfl
theorem xParLD_ev (h1 : m l g = some (ds, l1, g1)) (h2 : b l1 g1 = some (d2, l2, g2)) : xParLD i j m b l g = some (.nx, (l2.set i (.own ds)).set j (.dat d2), g2) := by rw [xParLD_at, h1, ob_some, h2]; rfl
theorem xParLL_ev (h1 : m l g = some (ds, l1, g1)) (h2 : m' l1 g1 = some (es, l2, g2)) : xParLL i j m m' l g = some (.nx, (l2.set i (.own ds)).set j (.own es), g2) := by rw [xParLL_at, h1, ob_some, h2]; rfl
theorem xPar3_ev (h1 : m l g = some ([d1, d2, d3], l1, g1)) : xPar3 i j k m l g = some (.nx, ((l1.set i (.dat d1)).set j (.dat d2)).set k (.dat d3), g1) := by rw [xPar3_at, h1]; rfl
theorem xFrz_O (h : l[i]? = some (.own ds)) (h2 : A (l.set i (.dat (.list ds))) g = some (o, l1, g1)) : xFrz i A l g = some (o, l1, g1) := by rw [xFrz_at, h]; exact h2
theorem xFrz_D (h : l[i]? = some (.dat d)) (h2 : A l g = some (o, l1, g1)) : xFrz i A l g = some (o, l1, g1) := by rw [xFrz_at, h]; exact h2
theorem xRet_ev (h : e l g = some (d, l1, g1)) : xRet e l g = some (.ret (.dat d), l1, g1) := by rw [xRet_at, h]; rfl
end
/-! data -/
theorem mulD_ev {i j : Int} (h : (-(2 ^ 64) < i ∧ i < 2 ^ 64) ∨ (-(2 ^ 64) < j ∧ j < 2 ^ 64)) : mulD (.int i) (.int j) = some (.int (i * j)) := by
  show (if _ then _ else _) = _
  rw [if_pos (by simpa using h)]
theorem modD_ev {i j : Int} (h : 0 < j) : modD (.int i) (.int j) = some (.int (i % j)) := by
  show (if _ then _ else _) = _
  rw [if_pos (by simpa using h)]
theorem fdivD_ev {i j : Int} (h : 0 < j ∧ j < 1073741824) : fdivD (.int i) (.int j) = some (.int (i / j)) := by
  show (if _ then _ else _) = _
  rw [if_pos (by simpa using h)]
theorem plusD_l {xs ys : List PyData} (h : xs.length + ys.length ≤ 100000) : plusD (.list xs) (.list ys) = some (.list (xs ++ ys)) := by
  show (if _ then _ else _) = _
  rw [if_pos h]
theorem plusD_t {xs ys : List PyData} (h : xs.length + ys.length ≤ 100000) : plusD (.tuple xs) (.tuple ys) = some (.tuple (xs ++ ys)) := by
  show (if _ then _ else _) = _
  rw [if_pos h]
theorem ixD_t {ds : List PyData} {k : Int} {d : PyData} (h0 : 0 ≤ k) (h : ds[k.toNat]? = some d) : ixD (.tuple ds) (.int k) = some d := by
  show atI ds k = _
  rw [atI_in h0, h]
theorem ixD_l {ds : List PyData} {k : Int} {d : PyData} (h0 : 0 ≤ k) (h : ds[k.toNat]? = some d) : ixD (.list ds) (.int k) = some d := by
  show atI ds k = _
  rw [atI_in h0, h]
theorem ixD_tN {ds : List PyData} {k : Nat} {d : PyData} (h : ds[k]? = some d) : ixD (.tuple ds) (.int (k : Int)) = some d := ixD_t (Int.natCast_nonneg k) (by simpa using h)
theorem ixD_lN {ds : List PyData} {k : Nat} {d : PyData} (h : ds[k]? = some d) : ixD (.list ds) (.int (k : Int)) = some d := ixD_l (Int.natCast_nonneg k) (by simpa using h)
theorem atI_N {ds : List PyData} {k : Nat} {d : PyData} (h : ds[k]? = some d) : atI ds (k : Int) = some d := by rw [atI_in (Int.natCast_nonneg k)]; simpa using h
theorem atI_last {ds : List PyData} {d : PyData} (h : ds[ds.length - 1]? = some d) : atI ds (-1) = some d := by
  have hl : ds.length - 1 < ds.length := (List.getElem?_eq_some_iff.mp h).1
  unfold atI ixN
  rw [if_neg (by decide), if_pos (by omega), show (-1 + (ds.length : Int)).toNat = ds.length - 1 by omega]
  exact h
theorem plusD_ii {i j : Int} : plusD (.int i) (.int j) = some (.int (i + j)) := rfl
theorem subD_ii {i j : Int} : subD (.int i) (.int j) = some (.int (i - j)) := rfl
theorem addI_ii {i j : Int} : addI (.int i) (.int j) = some (.int (i + j)) := rfl
theorem ltD_ii {i j : Int} : ltD (.int i) (.int j) = some (.bool (decide (i < j))) := rfl
theorem leD_ii {i j : Int} : leD (.int i) (.int j) = some (.bool (decide (i ≤ j))) := rfl
theorem gtD_ii {i j : Int} : gtD (.int i) (.int j) = some (.bool (decide (j < i))) := rfl
theorem geD_ii {i j : Int} : geD (.int i) (.int j) = some (.bool (decide (j ≤ i))) := rfl
theorem atI_z {ds : List PyData} {d : PyData} (h : ds[0]? = some d) : atI ds 0 = some d := atI_N h
theorem atI_i {ds : List PyData} {k : Int} {d : PyData} (h0 : 0 ≤ k) (h : ds[k.toNat]? = some d) : atI ds k = some d := by rw [atI_in h0, h]
theorem ixD_last {ds : List PyData} {d : PyData} (h : ds[ds.length - 1]? = some d) : ixD (.tuple ds) (.int (-1)) = some d := atI_last h
theorem ixD_lastL {ds : List PyData} {d : PyData} (h : ds[ds.length - 1]? = some d) : ixD (.list ds) (.int (-1)) = some d := atI_last h
theorem ixD_t0 {ds : List PyData} {d : PyData} (h : ds[0]? = some d) : ixD (.tuple ds) (.int 0) = some d := atI_N h
theorem ixD_l0 {ds : List PyData} {d : PyData} (h : ds[0]? = some d) : ixD (.list ds) (.int 0) = some d := atI_N h
theorem ixD_t1 {ds : List PyData} {d : PyData} (h : ds[1]? = some d) : ixD (.tuple ds) (.int 1) = some d := atI_N h
theorem ixD_l1 {ds : List PyData} {d : PyData} (h : ds[1]? = some d) : ixD (.list ds) (.int 1) = some d := atI_N h
theorem k_bb {x : Bool} : kitB (tyN (.bool x)) "bool" = some true := by show kitB "bool" "bool" = _; decide +kernel
theorem k_bt {x : Bool} : kitB (tyN (.bool x)) "tuple" = some false := by show kitB "bool" "tuple" = _; decide +kernel
theorem k_bs {x : Bool} : kitB (tyN (.bool x)) "str" = some false := by show kitB "bool" "str" = _; decide +kernel
theorem k_bi {x : Bool} : kitB (tyN (.bool x)) "int" = some true := by show kitB "bool" "int" = _; decide +kernel
theorem k_tb {x : List PyData} : kitB (tyN (.tuple x)) "bool" = some false := by show kitB "tuple" "bool" = _; decide +kernel
theorem k_tt {x : List PyData} : kitB (tyN (.tuple x)) "tuple" = some true := by show kitB "tuple" "tuple" = _; decide +kernel
theorem k_ts {x : List PyData} : kitB (tyN (.tuple x)) "str" = some false := by show kitB "tuple" "str" = _; decide +kernel
theorem k_ti {x : List PyData} : kitB (tyN (.tuple x)) "int" = some false := by show kitB "tuple" "int" = _; decide +kernel
theorem k_sb {x : Str} : kitB (tyN (.str x)) "bool" = some false := by show kitB "str" "bool" = _; decide +kernel
theorem k_st {x : Str} : kitB (tyN (.str x)) "tuple" = some false := by show kitB "str" "tuple" = _; decide +kernel
theorem k_ss {x : Str} : kitB (tyN (.str x)) "str" = some true := by show kitB "str" "str" = _; decide +kernel
theorem k_si {x : Str} : kitB (tyN (.str x)) "int" = some false := by show kitB "str" "int" = _; decide +kernel
theorem k_ib {x : Int} : kitB (tyN (.int x)) "bool" = some false := by show kitB "int" "bool" = _; decide +kernel
theorem k_it {x : Int} : kitB (tyN (.int x)) "tuple" = some false := by show kitB "int" "tuple" = _; decide +kernel
theorem k_is {x : Int} : kitB (tyN (.int x)) "str" = some false := by show kitB "int" "str" = _; decide +kernel
theorem k_ii {x : Int} : kitB (tyN (.int x)) "int" = some true := by show kitB "int" "int" = _; decide +kernel
theorem k_nb  : kitB (tyN (.none)) "bool" = some false := by show kitB "NoneType" "bool" = _; decide +kernel
theorem k_nt  : kitB (tyN (.none)) "tuple" = some false := by show kitB "NoneType" "tuple" = _; decide +kernel
theorem k_ns  : kitB (tyN (.none)) "str" = some false := by show kitB "NoneType" "str" = _; decide +kernel
theorem k_ni  : kitB (tyN (.none)) "int" = some false := by show kitB "NoneType" "int" = _; decide +kernel
theorem k_lb {x : List PyData} : kitB (tyN (.list x)) "bool" = some false := by show kitB "list" "bool" = _; decide +kernel
theorem k_lt {x : List PyData} : kitB (tyN (.list x)) "tuple" = some false := by show kitB "list" "tuple" = _; decide +kernel
theorem k_ls {x : List PyData} : kitB (tyN (.list x)) "str" = some false := by show kitB "list" "str" = _; decide +kernel
theorem k_li {x : List PyData} : kitB (tyN (.list x)) "int" = some false := by show kitB "list" "int" = _; decide +kernel
theorem rt_T {t : M Bool} {x y : X} {l l1 : Lo} {g g1 g' : Sg} {v : Vl} {p : Bool} (h : t l g = some (p, l1, g1)) (hp : p = true) (h2 : Rt x l1 g1 v g') : Rt (xIf t x y) l g v g' := by subst hp; exact rt_ift h h2
theorem rt_F {t : M Bool} {x y : X} {l l1 : Lo} {g g1 g' : Sg} {v : Vl} {p : Bool} (h : t l g = some (p, l1, g1)) (hp : p = false) (h2 : Rt y l1 g1 v g') : Rt (xIf t x y) l g v g' := by subst hp; exact rt_iff h h2
section
variable {α : Type} {l l1 l2 : Lo} {g g1 g2 : Sg} {a b : M PyData} {t u : M Bool} {p : Bool} {r : Option (PyData × Lo × Sg)} {rb : Option (Bool × Lo × Sg)} {rx : Option (Out × Lo × Sg)} {A B : X}
theorem cd_T {x y z : α} (h : p = true) (h2 : x = z) : cond p x y = z := by subst h; exact h2
theorem cd_F {x y z : α} (h : p = false) (h2 : y = z) : cond p x y = z := by subst h; exact h2
theorem eIf_D (h : t l g = some (p, l1, g1)) (h2 : cond p (a l1 g1) (b l1 g1) = r) : eIf t a b l g = r := by
  rw [eIf_at, h, ob_some, ← h2]
  cases p <;> rfl
theorem bAnd_D (h : t l g = some (p, l1, g1)) (h2 : cond p (u l1 g1) (some (false, l1, g1)) = rb) : bAnd t u l g = rb := by
  rw [bAnd_at, h, ob_some, ← h2]
  cases p <;> rfl
theorem bOr_D (h : t l g = some (p, l1, g1)) (h2 : cond p (some (true, l1, g1)) (u l1 g1) = rb) : bOr t u l g = rb := by
  rw [bOr_at, h, ob_some, ← h2]
  cases p <;> rfl
theorem xIf_D (h : t l g = some (p, l1, g1)) (h2 : cond p (A l1 g1) (B l1 g1) = rx) : xIf t A B l g = rx := by
  rw [xIf_at, h, ob_some, ← h2]
  cases p <;> rfl
end
theorem bIf_D {l l1 : Lo} {g g1 : Sg} {t u v : M Bool} {p : Bool} {rb : Option (Bool × Lo × Sg)} (h : t l g = some (p, l1, g1)) (h2 : cond p (u l1 g1) (v l1 g1) = rb) : bIf t u v l g = rb := by
  rw [bIf_at, h, ob_some, ← h2]
  cases p <;> rfl
end Sm

/-! ### x = {k: v for ..} where x is a plain local (as L2.ps_setLc for lists) -/
namespace L2
open PySem PySem.Spec PyProof.Rows
section
variable {X : Cx}
theorem ps_setDc {i : Nat} {y : Str} {py : Pos} {kx vx tg iter : Expr} {ifs : List Expr} {scope : Scope} {own : List (Str × Nat)} {pos spos : Pos} {wi : TI} {g : TG} {tt : TT} {tk tv : TE} (hc : X.calm = true) (hN : X.N.Nodup) (hy : X.N[i]? = some y) (hyl : X.env.scope.names.lookup y = some .local)
    (hsw : swapsWith (.DictComp kx vx [⟨tg, iter, ifs, 0⟩] scope pos) (some (.Name y py)) spos.line X.env = pure true) (hi : PI X tg iter wi) (ok : BlkOk X.N X.env.scope scope own)
    (hg : ∀ (s : Shared) (H : Hp) (C : Addr) (cl : List (Str × Addr)) (fp : List Addr), PG (X.blk s H scope (compEnvC scope cl C X.env) fp) tg g) (ht : ∀ (s : Shared) (H : Hp) (C : Addr) (cl : List (Str × Addr)) (fp : List Addr), PTs (X.blk s H scope (compEnvC scope cl C X.env) fp) ifs tt)
    (hk : ∀ (s : Shared) (H : Hp) (C : Addr) (cl : List (Str × Addr)) (fp : List Addr), PE (X.blk s H scope (compEnvC scope cl C X.env) fp) kx tk)
    (he : ∀ (s : Shared) (H : Hp) (C : Addr) (cl : List (Str × Addr)) (fp : List Addr), PE (X.blk s H scope (compEnvC scope cl C X.env) fp) vx tv) (hs : ∀ x, foldedSetIterable iter X.env x = pure x := by intro _; rfl) :
    PS X (.Assign [.Name y py] (.DictComp kx vx [⟨tg, iter, ifs, 0⟩] scope pos) spos) (tAsg (tDc wi g tt tk tv (own.map (·.2))) (gName i)) := by
  refine ⟨fun pins s σ H D I h => ?_⟩
  rw [exec_Assign_Name_used _ _ _ _ hsw]
  refine wpAny_bind (wpAny_standAt (wpAny_bind ?_))
  show wpAny _ X.A (do let _ ← comprehension (.DictComp kx vx [⟨tg, iter, ifs, 0⟩] scope pos) scope X.env (firstIterPos [⟨tg, iter, ifs, 0⟩] pos) newDict false (eval iter X.env) (some (assign (.Name y py) X.env))) _ _ s
  have h : tDc wi g tt tk tv (own.map (·.2)) σ H (fun x H1 => gName i x σ H1 D.nx) := h
  refine wpAny_bind (thn (dc_core (Qf := fun _ s' => SP X pins D .next s') hc hN I hi ok hg ht hk he hs h fun L C s' m H' I' q hn f => ?_) fun _ s' hq => wpAny_pure (wpAny_pure hq))
  show wpAny _ _ (assign (.Name y py) X.env (.ref L)) _ _ _
  refine wpAny_assign_Name (store_ok2 (v := V.ref L) I' hN hy (.inl hyl) rfl (fun s2 I2 ⟨a, sb, ha⟩ => ?_) (.inr hyl))
  obtain ⟨f0, f1, f2, f3, f4, f5⟩ := f
  have haC : C ≠ a := by
    rcases ha with z | z
    · rw [z]; exact f1
    · exact fun e => f4 y a z e.symm
  refine ⟨m, hn.sameBut sb haC, fun h3 sb3 => ?_⟩
  exact ⟨_, H', I2.turned (t' := s2.toks) (fun b o hb e => (sb3.2 b hb).trans e) f0 f1 f3 f4 f5, q⟩
theorem sw_trueD {kx vx : Expr} {gs : List Comprehension} {scope : Scope} {pos py : Pos} {y : Str} {l : Nat} {env : Env} (hk : env.scope.kind = .function) (hy : env.scope.names.lookup y = some .local) (hl : (py.line == pos.line) = true)
    (ha : (scope.names.any fun (n, k) => n == y && (k == .local || k == .cell)) = false) : swapsWith (.DictComp kx vx gs scope pos) (some (.Name y py)) l env = pure true := by
  have ky : env.kindOf y = some .local := hy
  have hb : env.blockKind = .function := by unfold Env.blockKind; rw [hk]; rfl
  unfold swapsWith
  simp only [hb, ky, ha, Expr.pos, hl]
  rfl
end
end L2
namespace Sm
open PySem PySem.Spec PyProof.Rows L2 RZ Dz
/-! ### dicts of one's own -/
def keyO : PyData → Option Key
  | .int i => some (.inl i)
  | .str x => some (.inr x)
  | _ => none
theorem keyO_some {d : PyData} {k : Key} (h : keyO d = some k) : d = keyD k := by
  unfold keyO at h
  split at h
  · cases h; rfl
  · cases h; rfl
  · cases h
def dcV (l : Lo) (g : Sg) (i : Nat) : Option (List (Key × PyData)) := match l[i]? with
  | some (.dct kvs) => some kvs
  | some (.ref j) => (match g[j]? with
    | some (.dct kvs) => some kvs
    | _ => none)
  | _ => none
def ptD (l : Lo) (g : Sg) (i : Nat) (kvs : List (Key × PyData)) : Lo × Sg := match l[i]? with
  | some (.dct _) => (l.set i (.dct kvs), g)
  | some (.ref j) => (l, g.set j (.dct kvs))
  | _ => (l, g)
section
variable {K : PySem.W.Frag} {l : Lo} {g : Sg} {s : L2.St} {H S : Hp} {r : List Addr} {A : List (Option Addr)} {i : Nat} {kvs : List (Key × PyData)}
theorem rd_dc (h : StOk K l g s H S r A) (e : dcV l g i = some kvs) : ∃ a ws, s[i]? = some (some (.ref a)) ∧ H a = some (.dK ws) ∧ KvD K S ws kvs ∧
    ∀ ys es, KvD K S ys es → StOk K (ptD l g i es).1 (ptD l g i es).2 s (upd H a (.dK ys)) S r A ∧ Mv S H r A S (upd H a (.dK ys)) r A := by
  unfold dcV at e
  split at e
  · rename_i ds' hl
    cases e
    obtain ⟨o, v, e1, e2, a, rfl, rfl, e3, xs, e4, e5⟩ := h.ok i _ hl
    refine ⟨a, xs, e2, e4, e5, fun ys es hd => ?_⟩
    have : ptD l g i es = (l.set i (.dct es), g) := by unfold ptD; rw [hl]
    rw [this]
    exact h.putO hl e1 e2 ⟨a, rfl, rfl, e3, ys, upd_same, hd⟩
  · rename_i j hl
    obtain ⟨o, v, e1, e2, e3, a, e4, rfl⟩ := h.ok i _ hl
    split at e
    · rename_i ds' hj
      cases e
      obtain ⟨_, xs, q1, q2⟩ := h.st j a _ e4 hj
      refine ⟨a, xs, e2, q1, q2, fun ys es hd => ?_⟩
      have : ptD l g i es = (l, g.set j (.dct es)) := by unfold ptD; rw [hl]
      rw [this]
      exact h.putR e4 ⟨ys, upd_same, hd⟩
    · cases e
  · cases e
end
def eDget (i : Nat) (b : M PyData) : M PyData := mb (mg fun l g => dcV l g i) fun _ => mb b fun y => mg fun l g => (dcV l g i).bind fun kvs => (keyO y).bind fun k => valG kvs k
def eDget2 (i : Nat) (b c : M PyData) : M PyData := mb (mg fun l g => dcV l g i) fun _ => mb b fun y => mb c fun z => mg fun l g => (dcV l g i).bind fun kvs => (keyO y).map fun k => (valG kvs k).getD z
def eDin (neg : Bool) (a : M PyData) (i : Nat) : M PyData := mb a fun y => mg fun l g => (dcV l g i).bind fun kvs => (keyO y).map fun k => .bool (if neg = true then !(valG kvs k).isSome else (valG kvs k).isSome)
def bTruD (i : Nat) : M Bool := mg fun l g => (dcV l g i).map fun kvs => !kvs.isEmpty
def lKeys (i : Nat) : M (List PyData) := mg fun l g => (dcV l g i).map fun kvs => kvs.map fun kv => keyD kv.1
def eLenD (i : Nat) : M PyData := mg fun l g => (dcV l g i).map fun kvs => .int kvs.length
def lDnew : M (List (Key × PyData)) := mp []
def xDput (i : Nat) (b a : M PyData) : X := mb a fun x => mb (mg fun l g => dcV l g i) fun _ => mb b fun y => fun l g => match dcV l g i, keyO y with
  | some kvs, some k => if kvs.length < 100000 then some (.nx, (ptD l g i (putG kvs k x)).1, (ptD l g i (putG kvs k x)).2) else none
  | _, _ => none
def xDpop (i : Nat) (b : M PyData) : X := mb (mg fun l g => dcV l g i) fun _ => mb b fun y => fun l g => match dcV l g i, keyO y with
  | some kvs, some k => if (valG kvs k).isSome = true then some (.nx, (ptD l g i (dropG kvs k)).1, (ptD l g i (dropG kvs k)).2) else none
  | _, _ => none
section
variable {K : PySem.W.Frag} {ta tb tc : TE} {a b c : M PyData} {i : Nat}
theorem s_dget (hb : EvS K tb b) : EvS K (tDGet (tVar i) tb) (eDget i b) := fun l g d l' g' s H S r A e h Q q => by
  replace e := mb_some e; obtain ⟨y0, l0, g0, e0, e⟩ := e
  replace e0 := mg_some e0; obtain ⟨e0, rfl, rfl⟩ := e0
  replace e := mb_some e; obtain ⟨y, l1, g1, e1, e⟩ := e
  replace e := mg_some e; obtain ⟨e, rfl, rfl⟩ := e
  replace e := Option.bind_eq_some_iff.mp e; obtain ⟨kvs, e2, e⟩ := e
  replace e := Option.bind_eq_some_iff.mp e; obtain ⟨k, e3, e⟩ := e
  cases keyO_some e3
  obtain ⟨a, ws, q1, _⟩ := rd_dc h e0
  refine ⟨_, q1, hb _ _ _ _ _ s H S r A e1 h _ fun v1 H1 S1 r1 A1 m1 h1 d1 => ?_⟩
  obtain ⟨a', ws, q2, q3, q4, _⟩ := rd_dc h1 e2
  rw [q1] at q2
  cases q2
  obtain ⟨v, hv, hd⟩ := q4.val.1 d e
  exact ⟨a, v, rfl, .inl ⟨ws, k, .inl q3, key_dp d1, hv.symm⟩, q v H1 S1 r1 A1 m1 h1 hd⟩
theorem s_dget2 (hb : EvS K tb b) (hc : EvS K tc c) : EvS K (tDGet2 (tVar i) tb tc) (eDget2 i b c) := fun l g d l' g' s H S r A e h Q q => by
  replace e := mb_some e; obtain ⟨y0, l0, g0, e0, e⟩ := e
  replace e0 := mg_some e0; obtain ⟨e0, rfl, rfl⟩ := e0
  replace e := mb_some e; obtain ⟨y, l1, g1, e1, e⟩ := e
  replace e := mb_some e; obtain ⟨z, l2, g2, e2', e⟩ := e
  replace e := mg_some e; obtain ⟨e, rfl, rfl⟩ := e
  replace e := Option.bind_eq_some_iff.mp e; obtain ⟨kvs, e2, e⟩ := e
  obtain ⟨k, e3, rfl⟩ := Option.map_eq_some_iff.mp e
  cases keyO_some e3
  obtain ⟨a, ws, q1, q1', _⟩ := rd_dc h e0
  refine ⟨_, q1, a, rfl, .inl ⟨ws, .inl q1'⟩, hb _ _ _ _ _ s H S r A e1 h _ fun v1 H1 S1 r1 A1 m1 h1 d1 => hc _ _ _ _ _ s H1 S1 r1 A1 e2' h1 _ fun v2 H2 S2 r2 A2 m2 h2 d2 => ?_⟩
  obtain ⟨a', ws, q2, q3, q4, _⟩ := rd_dc h2 e2
  rw [q1] at q2
  cases q2
  refine ⟨valV ws k, .inl ⟨ws, k, .inl q3, key_dp d1, rfl⟩, ?_⟩
  cases hq : valG kvs k with
  | none =>
    rw [q4.val.2 hq]
    exact q v2 H2 S2 r2 A2 (m1.trans m2) h2 (by rw [hq]; exact d2)
  | some x =>
    obtain ⟨v, hv, hd⟩ := q4.val.1 x hq
    rw [hv]
    exact q v H2 S2 r2 A2 (m1.trans m2) h2 (by rw [hq]; exact hd)
theorem s_din (ha : EvS K ta a) : EvS K (tDIn ta (tVar i)) (eDin false a i) := fun l g d l' g' s H S r A e h Q q => by
  replace e := mb_some e; obtain ⟨y, l1, g1, e1, e⟩ := e
  replace e := mg_some e; obtain ⟨e, rfl, rfl⟩ := e
  replace e := Option.bind_eq_some_iff.mp e; obtain ⟨kvs, e2, e⟩ := e
  obtain ⟨k, e3, rfl⟩ := Option.map_eq_some_iff.mp e
  cases keyO_some e3
  refine ha _ _ _ _ _ s H S r A e1 h _ fun v1 H1 S1 r1 A1 m1 h1 d1 => ?_
  obtain ⟨a, ws, q1, q2, q3, _⟩ := rd_dc h1 e2
  refine ⟨_, q1, a, _, rfl, .inl ⟨ws, k, .inl q2, key_dp d1, rfl⟩, q _ H1 S1 r1 A1 m1 h1 ?_⟩
  rw [if_neg Bool.false_ne_true, ← val_some q3]
  exact .bl _
theorem s_dnotin (ha : EvS K ta a) : EvS K (tDNotIn ta (tVar i)) (eDin true a i) := fun l g d l' g' s H S r A e h Q q => by
  replace e := mb_some e; obtain ⟨y, l1, g1, e1, e⟩ := e
  replace e := mg_some e; obtain ⟨e, rfl, rfl⟩ := e
  replace e := Option.bind_eq_some_iff.mp e; obtain ⟨kvs, e2, e⟩ := e
  obtain ⟨k, e3, rfl⟩ := Option.map_eq_some_iff.mp e
  cases keyO_some e3
  refine ha _ _ _ _ _ s H S r A e1 h _ fun v1 H1 S1 r1 A1 m1 h1 d1 => ?_
  obtain ⟨a, ws, q1, q2, q3, _⟩ := rd_dc h1 e2
  refine ⟨_, q1, a, _, rfl, .inl ⟨ws, k, .inl q2, key_dp d1, rfl⟩, q _ H1 S1 r1 A1 m1 h1 ?_⟩
  rw [if_pos rfl, ← val_some q3]
  exact .bl _
theorem s_truD : EvT K (fun σ H Q => tVar i σ H fun x H' => ∃ k, TruV K x H' k ∧ Q k H') (bTruD i) := fun l g d l' g' s H S r A e h Q q => by
  replace e := mg_some e; obtain ⟨e, rfl, rfl⟩ := e
  obtain ⟨kvs, e2, rfl⟩ := Option.map_eq_some_iff.mp e
  obtain ⟨a, ws, q1, q2, q3, _⟩ := rd_dc h e2
  refine ⟨_, q1, !kvs.isEmpty, .inr (.inr ⟨ws, q2, ?_⟩), q H S r A (Mv.refl h.hs) h⟩
  have := q3.len
  cases ws <;> cases kvs <;> simp at this ⊢
theorem s_keys : EvL K (tCB rListD (tCons (tVar i) tNil)) (lKeys i) := fun l g d l' g' s H S r A e h Q q => by
  replace e := mg_some e; obtain ⟨e, rfl, rfl⟩ := e
  obtain ⟨kvs, e2, rfl⟩ := Option.map_eq_some_iff.mp e
  obtain ⟨a, ws, q1, q2, q3, _⟩ := rd_dc h e2
  exact ⟨_, q1, a, ws, rfl, q2, new_l (Mv.refl h.hs) h q3.keys q⟩
theorem s_lenD : EvS K (tCB (fun xs H Q => ∃ a kvs, xs = [V.ref a] ∧ H a = some (.dK kvs) ∧ Q (.int kvs.length) H) (tCons (tVar i) tNil)) (eLenD i) := fun l g d l' g' s H S r A e h Q q => by
  replace e := mg_some e; obtain ⟨e, rfl, rfl⟩ := e
  obtain ⟨kvs, e2, rfl⟩ := Option.map_eq_some_iff.mp e
  obtain ⟨a, ws, q1, q2, q3, _⟩ := rd_dc h e2
  exact ⟨_, q1, a, ws, rfl, q2, q _ H S r A (Mv.refl h.hs) h (by rw [q3.len]; exact .int _)⟩
theorem s_dnew : EvC K tDNewK lDnew := fun l g d l' g' s H S r A e h Q q => by
  obtain ⟨rfl, rfl, rfl⟩ := mp_some e
  intro p hp
  have gr : Grow m0 S H S (upd H p (.dK [])) := Grow.out h.hs hp
  exact q p [] _ S r A (Mv.grow gr) (h.grow gr) hp (fun z => (h.there z).1 hp) (h.hs.free hp) upd_same .nil
theorem x_dput (hb : EvS K tb b) (ha : EvS K ta a) : ExS K (sDPut (tVar i) tb ta) (xDput i b a) := fun l g o l' g' s H S r A e h D q => by
  replace e := mb_some e; obtain ⟨x, l1, g1, e1, e⟩ := e
  replace e := mb_some e; obtain ⟨y0, l2, g2, e2, e⟩ := e
  replace e2 := mg_some e2; obtain ⟨e2, rfl, rfl⟩ := e2
  replace e := mb_some e; obtain ⟨y, l3, g3, e3, e⟩ := e
  split at e
  · rename_i kvs k e4 e5
    split at e
    · rename_i hz
      cases e
      cases keyO_some e5
      refine ha _ _ _ _ _ s H S r A e1 h _ fun v1 H1 S1 r1 A1 m1 h1 d1 => ?_
      obtain ⟨ad, ws, q1, _⟩ := rd_dc h1 e2
      refine ⟨_, q1, hb _ _ _ _ _ s H1 S1 r1 A1 e3 h1 _ fun v2 H2 S2 r2 A2 m2 h2 d2 => ?_⟩
      obtain ⟨ad', ws, q2, q3, q4, q5⟩ := rd_dc h2 e4
      rw [q1] at q2
      cases q2
      obtain ⟨h3, m3⟩ := q5 _ _ (q4.put (k := k) (Dp_mono d1 m2.s))
      exact ⟨ad, _, rfl, .inl ⟨ws, k, q3, key_dp d2, szt (by rw [q4.len]; exact hz), rfl⟩, q s _ S2 r2 A2 ((m1.trans m2).trans m3) h3⟩
    · cases e
  · cases e
theorem x_dpop (hb : EvS K tb b) : ExS K (tDrop (tDPop1 (tVar i) tb)) (xDpop i b) := fun l g o l' g' s H S r A e h D q => by
  replace e := mb_some e; obtain ⟨y0, l2, g2, e2, e⟩ := e
  replace e2 := mg_some e2; obtain ⟨e2, rfl, rfl⟩ := e2
  replace e := mb_some e; obtain ⟨y, l3, g3, e3, e⟩ := e
  split at e
  · rename_i kvs k e4 e5
    split at e
    · rename_i hk
      cases e
      cases keyO_some e5
      obtain ⟨ad, ws, q1, q1', _⟩ := rd_dc h e2
      refine ⟨_, q1, ad, rfl, .inl ⟨ws, .inl q1'⟩, hb _ _ _ _ _ s H S r A e3 h _ fun v2 H2 S2 r2 A2 m2 h2 d2 => ?_⟩
      obtain ⟨ad', ws, q2, q3, q4, q5⟩ := rd_dc h2 e4
      rw [q1] at q2
      cases q2
      obtain ⟨x, hx⟩ := Option.isSome_iff_exists.mp hk
      obtain ⟨v, hv, _⟩ := q4.val.1 x hx
      obtain ⟨h3, m3⟩ := q5 _ _ (q4.drop (k := k))
      exact ⟨ws, k, v, q3, key_dp d2, hv, q s _ S2 r2 A2 (m2.trans m3) h3⟩
    · cases e
  · cases e
end
/-! ### a comprehension over d.items(), the dict being frozen for that time -/
def pairD (kv : Key × PyData) : PyData := .tuple [keyD kv.1, kv.2]
def xItems (i j : Nat) (vs : List Nat) (tg : G) (t : M Bool) (e : M PyData) : X := fun l g => match l[i]? with
  | some (.dct kvs) => if (plainAt vs (l.set i .no) && decide (kvs.length ≤ 100000)) = true then (match lcL vs tg t e (kvs.map pairD) (l.set i .no) g with
    | some (ys, l1, g1) => (match l1[i]? with
      | some .no => if j < l1.length then some (.nx, (l1.set i (.dct kvs)).set j (.dat (.list ys)), g1) else none
      | _ => none)
    | none => none) else none
  | _ => none
section
variable {K : PySem.W.Frag} {l : Lo} {g : Sg} {s : L2.St} {H S : Hp} {r : List Addr} {A : List (Option Addr)} {i : Nat}
/-- a slot is forgotten -/
theorem StOk.drop (h : StOk K l g s H S r A) : StOk K (l.set i .no) g s H S r (A.set i none) :=
  ⟨h.hs, by rw [List.length_set, List.length_set]; exact h.la, by rw [List.length_set]; exact h.ls, fun j z e => by
    by_cases hij : i = j
    · subst hij
      have hl : i < l.length := by
        have := (List.getElem?_eq_some_iff.mp e).1
        rwa [List.length_set] at this
      rw [List.getElem?_set_self hl] at e
      cases e
      obtain ⟨o, v, e1, e2, e3⟩ := h.ok i _ (List.getElem?_eq_getElem hl)
      exact ⟨none, v, List.getElem?_set_self (by rw [h.la]; exact hl), e2, rfl⟩
    · rw [List.getElem?_set_ne hij] at e ⊢
      exact h.ok j z e, fun j k a e1 e2 => by
    have key : ∀ m : Nat, (A.set i none)[m]? = some (some a) → A[m]? = some (some a) := fun m e => by
      by_cases him : i = m
      · subst him
        have hl : i < A.length := by
          have := (List.getElem?_eq_some_iff.mp e).1
          rwa [List.length_set] at this
        rw [List.getElem?_set_self hl] at e
        cases e
      · rw [List.getElem?_set_ne him] at e
        exact e
    exact h.ij j k a (key j e1) (key k e2), fun a ha => by
    rcases List.mem_or_eq_of_mem_set ha with q | q
    · exact h.dr a q
    · exact absurd q (by simp), h.rn, h.lg, h.st⟩
theorem SOk.del {o : Addr} {od : Obj} {ws : List (Key × V)} {x : Vl} {oa : Option Addr} {w : Option V} {H' : Hp} (hS : S o = some (.frz od (.dK ws))) (na : ∀ a, oa = some a → a ≠ o) (hk : ∀ a u, a ≠ o → H a = some u → H' a = some u) (q : SOk K S H r x oa w) : SOk K (del S o) H' r x oa w := by
  cases x with
  | no => exact q
  | dat d => obtain ⟨e1, v, e2, e3⟩ := q; exact ⟨e1, v, e2, dp_del hS _ _ e3⟩
  | own ds => obtain ⟨a, e1, e2, e3, xs, e4, e5⟩ := q; exact ⟨a, e1, e2, by rw [del_ne (na a e1)]; exact e3, xs, hk _ _ (na a e1) e4, dpAll_del hS _ _ e5⟩
  | dct ds => obtain ⟨a, e1, e2, e3, xs, e4, e5⟩ := q; exact ⟨a, e1, e2, by rw [del_ne (na a e1)]; exact e3, xs, hk _ _ (na a e1) e4, kv_del hS e5⟩
  | ref j => exact q
/-- a frozen dict that nobody knows is thawed -/
theorem StOk.thaw {o : Addr} {od : Obj} {ws : List (Key × V)} (h : StOk K l g s H S r A) (hS : S o = some (.frz od (.dK ws))) : StOk K l g s (upd H o (.dK ws)) (del S o) r A := by
  have nt : ∀ a, tr A r a → a ≠ o := fun a ha z => by
    have := (h.there ha).2
    rw [z, hS] at this
    cases this
  have hk : ∀ a u, a ≠ o → H a = some u → upd H o (.dK ws) a = some u := fun a u ha hu => by rw [upd_ne ha]; exact hu
  refine ⟨fun a u hu => ?_, h.la, h.ls, fun j z e => ?_, h.ij, h.dr, h.rn, h.lg, fun j a ob e1 e2 => ?_⟩
  · have ha : a ≠ o := fun z => by rw [z, del_same] at hu; cases hu
    rw [del_ne ha] at hu
    exact hk a u ha (h.hs a u hu)
  · obtain ⟨oa, v, e1, e2, e3⟩ := h.ok j z e
    exact ⟨oa, v, e1, e2, e3.del hS (fun a ea => nt a (.inl (by rw [← ea]; exact List.mem_of_getElem? e1))) hk⟩
  · have ha := nt a (.inr (List.mem_of_getElem? e1))
    obtain ⟨q1, q2⟩ := h.st j a ob e1 e2
    refine ⟨by rw [del_ne ha]; exact q1, ?_⟩
    cases ob with
    | lst ds => obtain ⟨xs, p1, p2⟩ := q2; exact ⟨xs, hk _ _ ha p1, dpAll_del hS _ _ p2⟩
    | dct ds => obtain ⟨xs, p1, p2⟩ := q2; exact ⟨xs, hk _ _ ha p1, kv_del hS p2⟩
end
section
variable {K : PySem.W.Frag} {tt : TT} {te : TE} {t : M Bool} {e0 : M PyData} {tg : TG} {gg : G} {vs : List Nat} {i j : Nat}
/-- x = [e for k, v in d.items() if c] -/
theorem x_items (hij : i ≠ j) (hg : GIn tg vs) (hm : ∀ v s H (Q Q' : L2.St → Hp → Prop), (∀ s' H', Q s' H' → Q' s' H') → tg v s H Q → tg v s H Q') (hb : BdS K tg gg) (ht : EvT K tt t) (he : EvS K te e0) : ExS K (tLock (tAsg (tLc (iItems (tVar i)) tg tt te vs) (gName j))) (xItems i j vs gg t e0) := fun l g o l' g' s H S r A e h D q => by
  unfold xItems at e
  split at e
  case h_2 => cases e
  rename_i kvs hi
  split at e
  case isFalse => cases e
  rename_i hz
  rw [Bool.and_eq_true, decide_eq_true_eq] at hz
  split at e
  case h_2 => cases e
  rename_i ys l1 g1 e1
  split at e
  case h_2 => cases e
  rename_i hno
  split at e
  case isFalse => cases e
  rename_i hjl
  cases e
  obtain ⟨oo, v, a1, a2, a, rfl, rfl, hS, ws, hw, hkv⟩ := h.ok i _ hi
  have hil : i < l.length := (List.getElem?_eq_some_iff.mp hi).1
  have haA : some a ∈ A := List.mem_of_getElem? a1
  have ntr : ¬ tr (A.set i none) r a := fun z => by
    rcases z with z | z
    · obtain ⟨m, hmm⟩ := List.mem_iff_getElem?.mp z
      by_cases him : i = m
      · subst him
        have hl : i < A.length := by
          have := (List.getElem?_eq_some_iff.mp hmm).1
          rwa [List.length_set] at this
        rw [List.getElem?_set_self hl] at hmm
        cases hmm
      · rw [List.getElem?_set_ne him] at hmm
        exact him (h.ij i m a a1 hmm)
    · exact h.dr a haA z
  refine ⟨a, .dK ws, hw, trivial, fun od => ?_⟩
  have hSS : Same S (upd S a (.frz od (.dK ws))) := same_up hS
  have h0 := h.drop (i := i)
  have h1 : StOk K (l.set i .no) g s (upd H a (.frz od (.dK ws))) (upd S a (.frz od (.dK ws))) r (A.set i none) := by
    refine h0.move hSS (same_upup h.hs) (fun b hb => ?_) ⟨[], by simp⟩ h0.rn h0.dr h0.lg fun m b ob e1 e2 => ?_
    · have hba : b ≠ a := fun z => ntr (.inl (z ▸ hb))
      exact ⟨by rw [upd_ne hba]; exact (h0.thereA hb).2, fun u hu => by rw [upd_ne hba]; exact hu⟩
    · have hba : b ≠ a := fun z => ntr (.inr (z ▸ List.mem_of_getElem? e1))
      obtain ⟨p1, p2⟩ := h0.st m b ob e1 e2
      exact ⟨by rw [upd_ne hba]; exact p1, p2.go hSS fun z hz => by rw [upd_ne hba]; exact hz⟩
  refine lc_run (S := upd S a (.frz od (.dK ws))) (r := r) (A := A.set i none) (ds := kvs.map pairD) (fun R k => ⟨_, a2, a, od, ws, rfl, upd_same, k _ _ _ _ _ (Mv.refl h1.hs) h1 (walkItems upd_same (hkv.mono hSS))⟩) hg hm hb ht he hz.1 (by rw [List.length_map]; exact hz.2) e1 _ fun p xs H2 S2 r2 A2 m2 h2 hp ht2 sp hx hd => ?_
  have ho2 : H2 a = some (.frz od (.dK ws)) := m2.k a _ ntr upd_same
  have so2 : S2 a = some (.frz od (.dK ws)) := m2.s a _ upd_same
  refine ⟨ho2, ?_⟩
  have hpa : p ≠ a := fun z => by rw [z, upd_same] at hp; cases hp
  have hpH : H p = none := by rw [upd_ne hpa] at hp; exact hp
  have nt2 : ¬ tr A2 r2 a := fun z => by
    have := (h2.there z).2
    rw [so2] at this
    cases this
  have h3 := h2.thaw so2
  have kv3 : KvD K (del S2 a) ws kvs := kv_del so2 ((hkv.mono hSS).mono m2.s)
  have hsi : s.set i (some (V.ref a)) = s := by
    apply List.ext_getElem?
    intro m
    by_cases him : i = m
    · subst him
      rw [List.getElem?_set_self (by rw [h.ls]; exact hil), a2]
    · rw [List.getElem?_set_ne him]
  have h4 := h3.fresh (i := i) (y := .dct kvs) (p := a) (fun z => nt2 (.inl z)) (fun z => nt2 (.inr z)) ⟨a, rfl, rfl, del_same, ws, upd_same, kv3⟩
  rw [hsi] at h4
  have h5 := h4.freshL (i := j) (p := p) (xs := xs) (ds := ys) (fun z => by
    rcases List.mem_or_eq_of_mem_set z with z | z
    · exact ht2 (.inl z)
    · cases z; exact hpa rfl) (fun z => ht2 (.inr z)) (by rw [del_ne hpa]; exact sp) (by rw [upd_ne hpa]; exact hx) (dpAll_del so2 _ _ hd)
  have m5 : Mv S H r A (del S2 a) (upd H2 a (.dK ws)) r2 ((A2.set i (some a)).set j (some p)) := by
    have sS : Same S (del S2 a) := fun b u hu => by
      have hba : b ≠ a := fun z => by rw [z, hS] at hu; cases hu
      rw [del_ne hba]
      exact m2.s b u (by rw [upd_ne hba]; exact hu)
    refine ⟨sS, h3.hs, fun b hb1 hb2 hb3 => ?_, fun b u hb1 hb2 => ?_, fun b hb => ?_, m2.p, fun b hb => ?_⟩
    · have hba : b ≠ a := fun z => hb3 (.inl (z ▸ haA))
      rw [del_ne hba]
      exact m2.n b (by rw [upd_ne hba]; exact hb1) (by rw [upd_ne hba]; exact hb2) fun z => hb3 (trset z)
    · have hba : b ≠ a := fun z => hb1 (.inl (z ▸ haA))
      rw [upd_ne hba]
      exact m2.k b u (fun z => hb1 (trset z)) (by rw [upd_ne hba]; exact hb2)
    · by_cases hba : b = a
      · rw [hba, upd_same]; exact fun z => nomatch z
      · rw [upd_ne hba]
        exact m2.d b (by rw [upd_ne hba]; exact hb)
    · have key : tr A2 r2 b → tr A r b ∨ H b = none := fun z => by
        rcases m2.f b z with z | z
        · exact .inl (trset z)
        · by_cases hba : b = a
          · rw [hba, upd_same] at z; cases z
          · rw [upd_ne hba] at z; exact .inr z
      rcases hb with hb | hb
      · rcases List.mem_or_eq_of_mem_set hb with hb | hb
        · rcases List.mem_or_eq_of_mem_set hb with hb | hb
          · exact key (.inl hb)
          · cases hb; exact .inl (.inl haA)
        · cases hb; exact .inr hpH
      · exact key (.inr hb)
  obtain ⟨S6, h6, m6⟩ := h5.freeze (i := j) (ds := ys) (by
    rw [List.getElem?_set_self (by rw [List.length_set]; exact hjl)])
  rw [List.set_set] at h6
  exact q _ _ S6 _ _ (m5.trans m6) h6
end
/-! ### dict comprehensions -/
def lcD (vs : List Nat) (tg : G) (t : M Bool) (k e : M PyData) : List PyData → List (Key × PyData) → M (List (Key × PyData))
  | [], acc => mp acc
  | d :: ds, acc => fun l g => match tg d (wipeV l vs) with
    | none => none
    | some l1 => match t l1 g with
      | none => none
      | some (true, l2, g2) => (match k l2 g2 with
        | none => none
        | some (y, l3, g3) => (match e l3 g3 with
          | none => none
          | some (z, l4, g4) => (match keyO y with
            | none => none
            | some kk => lcD vs tg t k e ds (putG acc kk z) (backV l l4 vs) g4)))
      | some (false, l2, g2) => lcD vs tg t k e ds acc (backV l l2 vs) g2
def lDc (vs : List Nat) (it : M (List PyData)) (tg : G) (t : M Bool) (k e : M PyData) : M (List (Key × PyData)) := mb it fun ds => fun l g => if (plainAt vs l && decide (ds.length ≤ 100000)) = true then lcD vs tg t k e ds [] l g else none
theorem lcD_step {vs : List Nat} {tg : G} {t : M Bool} {k e : M PyData} {d : PyData} {ds : List PyData} {acc ys : List (Key × PyData)} {l l' : Lo} {g g' : Sg} (h : lcD vs tg t k e (d :: ds) acc l g = some (ys, l', g')) :
    ∃ l1 b l2 g2, tg d (wipeV l vs) = some l1 ∧ t l1 g = some (b, l2, g2) ∧ ((b = true ∧ ∃ y l3 g3 z l4 g4 kk, k l2 g2 = some (y, l3, g3) ∧ e l3 g3 = some (z, l4, g4) ∧ keyO y = some kk ∧ lcD vs tg t k e ds (putG acc kk z) (backV l l4 vs) g4 = some (ys, l', g')) ∨ (b = false ∧ lcD vs tg t k e ds acc (backV l l2 vs) g2 = some (ys, l', g'))) := by
  unfold lcD at h
  split at h
  · cases h
  · rename_i l1 e1
    split at h
    · cases h
    · rename_i l2 g2 e2
      split at h
      · cases h
      · rename_i y l3 g3 e3
        split at h
        · cases h
        · rename_i z l4 g4 e4
          split at h
          · cases h
          · rename_i kk e5
            exact ⟨l1, true, l2, g2, e1, e2, .inl ⟨rfl, y, l3, g3, z, l4, g4, kk, e3, e4, e5, h⟩⟩
    · rename_i l2 g2 e2
      exact ⟨l1, false, l2, g2, e1, e2, .inr ⟨rfl, h⟩⟩
theorem putG_len {kvs : List (Key × PyData)} {k : Key} {v : PyData} : (putG kvs k v).length ≤ kvs.length + 1 := by
  unfold putG
  split
  · rw [List.length_map]; omega
  · rw [List.length_append]; simp
section
variable {K : PySem.W.Frag} {tt : TT} {tk te : TE} {t : M Bool} {k0 e0 : M PyData} {wi : TI} {it : M (List PyData)} {tg : TG} {gg : G} {vs : List Nat}
theorem s_dc (hi : EvI K wi it) (hg : GIn tg vs) (hm : ∀ v s H (Q Q' : L2.St → Hp → Prop), (∀ s' H', Q s' H' → Q' s' H') → tg v s H Q → tg v s H Q') (hb : BdS K tg gg) (ht : EvT K tt t) (hk : EvS K tk k0) (he : EvS K te e0) : EvC K (tDc wi tg tt tk te vs) (lDc vs it gg t k0 e0) := fun l g d l' g' s H S r A e h Q q => by
  replace e := mb_some e; obtain ⟨ds, l1, g1, e1, e⟩ := e
  split at e
  case isFalse => cases e
  rename_i hz
  rw [Bool.and_eq_true, decide_eq_true_eq] at hz
  obtain ⟨hpl, hz⟩ := hz
  refine hi _ _ _ _ _ s H S r A e1 h _ fun J H1 S1 r1 A1 m1 h1 w => ?_
  intro D hD
  have hDH : H D = none := by
    cases hq : H D with
    | none => rfl
    | some u => exact absurd hD (m1.d D (some_ne hq))
  have gD : Grow m0 S1 H1 S1 (upd H1 D (.dK [])) := Grow.out h1.hs hD
  have hDt : ¬ tr A1 r1 D := fun z => (h1.there z).1 hD
  refine ⟨fun i m H2 => m = ds.length - i ∧ i ≤ ds.length ∧ ∃ li gi Si ri Ai acc ac, StOk K li gi s H2 Si ri Ai ∧ Mv S1 H1 r1 A1 Si H2 ri Ai ∧ ¬ tr Ai ri D ∧ Si D = none ∧ H2 D = some (.dK acc) ∧ KvD K Si acc ac ∧ ac.length ≤ i ∧ plainAt vs li = true ∧ lcD vs gg t k0 e0 (ds.drop i) ac li gi = some (d, l', g'),
    ⟨ds.length, by simp, Nat.zero_le _, l1, g1, S1, r1, A1, [], [], h1.grow gD, Mv.grow gD, hDt, h1.hs.free hD, upd_same, .nil, Nat.le_refl _, hpl, e⟩, ?_⟩
  rintro i m H2 ⟨rfl, hle, li, gi, Si, ri, Ai, acc, ac, hst, mi, hDi, sDi, hacc, hdacc, hal, hpi, hrun⟩
  by_cases hlt : i < ds.length
  · have mw := m1.trans mi
    refine .inr ⟨w.go i H2 hlt (mi.s.trans hst.hs), fun H3 => i + 1 ≤ ds.length ∧ ∃ li gi Si ri Ai acc ac, StOk K li gi s H3 Si ri Ai ∧ Mv S1 H1 r1 A1 Si H3 ri Ai ∧ ¬ tr Ai ri D ∧ Si D = none ∧ H3 D = some (.dK acc) ∧ KvD K Si acc ac ∧ ac.length ≤ i + 1 ∧ plainAt vs li = true ∧ lcD vs gg t k0 e0 (ds.drop (i + 1)) ac li gi = some (d, l', g'), fun H3 ⟨q1, q2⟩ => ⟨ds.length - (i + 1), by omega, rfl, q1, q2⟩, fun x H3 y => ?_⟩
    have hdi : ds[i]? = some ds[i] := List.getElem?_eq_getElem hlt
    obtain ⟨S3, g3, d3⟩ := w.yld i H2 x H3 ds[i] Si hdi mi.s hst.hs y
    have h3 := hst.grow g3
    have hdrop : ds.drop i = ds[i] :: ds.drop (i + 1) := List.drop_eq_getElem_cons hlt
    rw [hdrop] at hrun
    obtain ⟨lb, b, l2, g2, k1, k2, k3⟩ := lcD_step hrun
    have sD3 : S3 D = none := g3.n D sDi (some_ne hacc)
    have hD3 : H3 D = some (.dK acc) := g3.all D _ hacc
    have bnd := hb _ _ _ _ _ _ _ _ _ x (fun s4 H4 => ∃ S4 A4, Mv S3 H3 ri (cutA Ai vs) S4 H4 ri A4 ∧ StOk K lb gi s4 H4 S4 ri A4) k1 (h3.wipe (vs := vs)) d3 fun s4 H4 S4 A4 m4 h4 => ⟨S4, A4, m4, h4⟩
    refine hm _ _ _ _ _ ?_ (hg x (wipe s vs) H3 _ bnd)
    rintro s4 H4 ⟨hw, S4, A4, m4, h4⟩
    have hw' : wipe s4 vs = wipe s vs := by
      rw [hw]
      apply List.ext_getElem?
      intro j
      rw [wipe_get, wipe_get, wipe_length]
      by_cases hj : j ∈ vs
      · rw [if_pos hj, if_pos hj]
      · rw [if_neg hj, if_neg hj]
    refine ⟨hw', ?_⟩
    have hDc : ¬ tr (cutA Ai vs) ri D := fun z => hDi (trcut z)
    have sD4 : S4 D = none := m4.n D sD3 (some_ne hD3) hDc
    have hD4 : H4 D = some (.dK acc) := m4.k D _ hDc hD3
    have hD4t : ¬ tr A4 ri D := fun z => (m4.f D z).elim hDc (some_ne hD3)
    have mc : Mv Si H2 ri Ai S4 H4 ri A4 := by
      have := (Mv.grow (r := ri) (A := Ai) g3).trans (Mv.trans (A1 := cutA Ai vs) (A2 := A4) (r1 := ri) (r2 := ri) ⟨Same.refl S3, h3.hs, fun _ e _ _ => e, fun _ _ _ e => e, fun _ e => e, ⟨[], by simp⟩, fun a z => .inl (trcut z)⟩ m4)
      exact this
    have hlen4 : lb.length = li.length := by
      have e1 := h4.ls
      have e2 := hst.ls
      have e3 := congrArg List.length hw'
      rw [wipe_length, wipe_length] at e3
      omega
    refine ht _ _ _ _ _ s4 H4 S4 ri A4 k2 h4 _ fun H5 S5 r5 A5 m5 h5 => ?_
    have sD5 : S5 D = none := m5.n D sD4 (some_ne hD4) hD4t
    have hD5 : H5 D = some (.dK acc) := m5.k D _ hD4t hD4
    have hD5t : ¬ tr A5 r5 D := fun z => (m5.f D z).elim hD4t (some_ne hD4)
    have hlen5 : l2.length = li.length := by
      have e1 := h5.ls
      have e2 := h4.ls
      omega
    rcases k3 with ⟨rfl, y2, l3, g3', z2, l4, g4', kk, k4, k5, k6, k7⟩ | ⟨rfl, k4⟩
    · rw [if_pos rfl]
      cases keyO_some k6
      refine hk _ _ _ _ _ s4 H5 S5 r5 A5 k4 h5 _ fun v55 H55 S55 r55 A55 m55 h55 d55 => ?_
      have sD55 : S55 D = none := m55.n D sD5 (some_ne hD5) hD5t
      have hD55 : H55 D = some (.dK acc) := m55.k D _ hD5t hD5
      have hD55t : ¬ tr A55 r55 D := fun z => (m55.f D z).elim hD5t (some_ne hD5)
      refine he _ _ _ _ _ s4 H55 S55 r55 A55 k5 h55 _ fun v6 H6 S6 r6 A6 m6 h6 d6 => ?_
      have sD6 : S6 D = none := m6.n D sD55 (some_ne hD55) hD55t
      have hD6 : H6 D = some (.dK acc) := m6.k D _ hD55t hD55
      have hD6t : ¬ tr A6 r6 D := fun z => (m6.f D z).elim hD55t (some_ne hD55)
      have hlen6 : l4.length = li.length := by
        have e1 := h6.ls
        have e2 := h4.ls
        omega
      have mall := ((mc.trans m5).trans m55).trans m6
      have hb6 := hst.back hpi h6 hw' hlen6 mall.s mall.p
      have hl := hdacc.len
      have hDcut : ¬ tr (cutA A6 vs) r6 D := fun z => hD6t (trcut z)
      have hput : StOk K (backV li l4 vs) g4' s (upd H6 D (.dK (putK acc kk v6))) S6 r6 (cutA A6 vs) := by
        refine hb6.move (Same.refl S6) (fun b z e => ?_) (fun b hb => ⟨(hb6.thereA hb).2, fun u e => ?_⟩) ⟨[], by simp⟩ hb6.rn hb6.dr hb6.lg fun j b o e1 e2 => ?_
        · rw [upd_ne (ne_of_none e sD6)]; exact hb6.hs b z e
        · rw [upd_ne fun z => hDcut (.inl (by rw [← z]; exact hb))]; exact e
        · obtain ⟨p1, p2⟩ := hb6.st j b o e1 e2
          exact ⟨p1, p2.go (Same.refl S6) fun z e => by rw [upd_ne fun z => hDcut (.inr (by rw [← z]; exact List.mem_of_getElem? e1))]; exact e⟩
      have mnew : Mv S1 H1 r1 A1 S6 (upd H6 D (.dK (putK acc kk v6))) r6 (cutA A6 vs) := by
        have mm := mi.trans mall
        refine ⟨mm.s, hput.hs, mm.n, fun b o hb e => ?_, fun b e => ?_, mm.p, fun b z => mm.f b (trcut z)⟩
        · have hbD : b ≠ D := fun z => by rw [z, hD] at e; cases e
          rw [upd_ne hbD]; exact mm.k b o hb e
        · by_cases hbD : b = D
          · subst hbD; rw [upd_same]; exact fun z => nomatch z
          · rw [upd_ne hbD]; exact mm.d b e
      have hpl2 := putG_len (kvs := ac) (k := kk) (v := z2)
      exact ⟨acc, kk, key_dp d55, hD6, szt (by omega), hlt, backV li l4 vs, g4', S6, r6, cutA A6 vs, _, putG ac kk z2, hput, mnew, hDcut, sD6, upd_same, (hdacc.mono mall.s).put d6, by omega, plain_back hpi hlen6, k7⟩
    · rw [if_neg Bool.false_ne_true]
      have mall := mc.trans m5
      have hb5 := hst.back hpi h5 hw' hlen5 mall.s mall.p
      exact ⟨hlt, backV li l2 vs, g2, S5, r5, cutA A5 vs, acc, ac, hb5, (mi.trans mall).cut, fun z => hD5t (trcut z), sD5, hD5, hdacc.mono mall.s, by omega, plain_back hpi hlen5, k4⟩
  · have ei : i = ds.length := by omega
    subst ei
    rw [List.drop_length] at hrun
    obtain ⟨rfl, rfl, rfl⟩ := mp_some hrun
    have mw := m1.trans mi
    exact .inl ⟨w.stop H2 (mi.s.trans hst.hs), q D acc H2 Si ri Ai mw hst hDH hDi sDi hacc hdacc⟩
end
/-! ### a, b = e, f with new lists or dicts among them -/
inductive NAll (K : PySem.W.Frag) (S H : Hp) (r : List Addr) : List V → List Vl → List (Option Addr) → Prop
  | nil : NAll K S H r [] [] []
  | cons {v : V} {x : Vl} {o : Option Addr} {vs : List V} {xs : List Vl} {os : List (Option Addr)} : SOk K S H r x o (some v) → NAll K S H r vs xs os → NAll K S H r (v :: vs) (x :: xs) (o :: os)
def Apart : List (Option Addr) → Prop := List.Pairwise fun o o' => ∀ a, o = some a → o' ≠ some a
def EvN (K : PySem.W.Frag) (ta : TA) (e : M (List Vl)) : Prop := ∀ l g xs l' g' s H S r A, e l g = some (xs, l', g') → StOk K l g s H S r A → ∀ Q : List V → Hp → Prop,
  (∀ vs os H' S' r' A', Mv S H r A S' H' r' A' → StOk K l' g' s H' S' r' A' → NAll K S' H' r' vs xs os → (∀ a, some a ∈ os → ¬ tr A' r' a ∧ H a = none) → Apart os → Q vs H') → ta s H Q
theorem NAll.go {K : PySem.W.Frag} {S H S1 H1 : Hp} {r r1 : List Addr} {vs : List V} {xs : List Vl} {os : List (Option Addr)} (h : NAll K S H r vs xs os) (hs : Same S S1) (hk : ∀ a, some a ∈ os → S1 a = none ∧ ∀ u, H a = some u → H1 a = some u) (hr : ∃ q, r1 = r ++ q) : NAll K S1 H1 r1 vs xs os := by
  induction h with
  | nil => exact .nil
  | cons h1 _ ih => exact .cons (h1.go hs (fun a ea => hk a (by rw [ea]; exact List.mem_cons_self)) hr) (ih fun a ha => hk a (List.mem_cons_of_mem _ ha))
def uNil : M (List Vl) := mp []
def uD (a : M PyData) (m : M (List Vl)) : M (List Vl) := mb a fun x => mb m fun xs => mp (.dat x :: xs)
def uL (a : M (List PyData)) (m : M (List Vl)) : M (List Vl) := mb a fun x => mb m fun xs => mp (.own x :: xs)
def uC (a : M (List (Key × PyData))) (m : M (List Vl)) : M (List Vl) := mb a fun x => mb m fun xs => mp (.dct x :: xs)
def setsV : Lo → List Nat → List Vl → Lo
  | l, i :: is, x :: xs => setsV (l.set i x) is xs
  | l, _, _ => l
def xTup (is : List Nat) (m : M (List Vl)) : X := mb m fun xs => fun l g => if xs.length = is.length ∧ xs.length ≤ 100000 then some (.nx, setsV l is xs, g) else none
def gNames : List Nat → TGs
  | [] => gNil
  | i :: is => gCons (gName i) (gNames is)
section
variable {K : PySem.W.Frag} {te : TE} {ta : TA} {m : M (List Vl)}
theorem u_nil : EvN K tNil uNil := fun l g d l' g' s H S r A e h Q q => by
  obtain ⟨rfl, rfl, rfl⟩ := mp_some e
  exact q [] [] H S r A (Mv.refl h.hs) h .nil (fun a ha => nomatch ha) .nil
theorem u_D {a : M PyData} (h1 : EvS K te a) (h2 : EvN K ta m) : EvN K (tCons te ta) (uD a m) := fun l g d l' g' s H S r A e h Q q => by
  replace e := mb_some e; obtain ⟨x, l1, g1, e1, e⟩ := e
  replace e := mb_some e; obtain ⟨xs, l2, g2, e2, e⟩ := e
  obtain ⟨rfl, rfl, rfl⟩ := mp_some e
  refine h1 _ _ _ _ _ s H S r A e1 h _ fun v H1 S1 r1 A1 m1 k1 d1 => h2 _ _ _ _ _ s H1 S1 r1 A1 e2 k1 _ fun vs os H2 S2 r2 A2 m2 k2 n2 f2 p2 => q _ (none :: os) H2 S2 r2 A2 (m1.trans m2) k2 (.cons ⟨rfl, v, rfl, Dp_mono d1 m2.s⟩ n2) (fun a ha => ?_) (.cons (fun o _ a z => nomatch z) p2)
  rcases List.mem_cons.mp ha with z | z
  · cases z
  · refine ⟨(f2 a z).1, ?_⟩
    cases hq : H a with
    | none => rfl
    | some u => exact absurd (f2 a z).2 (m1.d a (some_ne hq))
theorem u_new {Y : V → Hp → Hp → Prop} {l1 l2 : Lo} {g1 g2 : Sg} {s : L2.St} {H S H1 S1 : Hp} {r r1 : List Addr} {A A1 : List (Option Addr)} {x : Vl} {xs : List Vl} {p : Addr} {Q : List V → Hp → Prop} (h2 : EvN K ta m) (e2 : m l1 g1 = some (xs, l2, g2)) (m1 : Mv S H r A S1 H1 r1 A1) (k1 : StOk K l1 g1 s H1 S1 r1 A1) (hp : H p = none) (ht : ¬ tr A1 r1 p) (ok : SOk K S1 H1 r1 x (some p) (some (.ref p)))
    (q : ∀ vs os H' S' r' A', Mv S H r A S' H' r' A' → StOk K l2 g2 s H' S' r' A' → NAll K S' H' r' vs (x :: xs) os → (∀ a, some a ∈ os → ¬ tr A' r' a ∧ H a = none) → Apart os → Q vs H') : ta s H1 fun vs H' => Q (.ref p :: vs) H' := by
  obtain ⟨ex, sp⟩ := ok.there
  refine h2 _ _ _ _ _ s H1 S1 r1 A1 e2 k1 _ fun vs os H2 S2 r2 A2 m2 k2 n2 f2 p2 => q _ (some p :: os) H2 S2 r2 A2 (m1.trans m2) k2 (.cons (ok.go m2.s (fun a ea => ?_) m2.p) n2) (fun a ha => ?_) (.cons (fun o ho a z z2 => ?_) p2)
  · cases ea
    exact ⟨m2.n p sp ex ht, fun u hu => m2.k p u ht hu⟩
  · rcases List.mem_cons.mp ha with z | z
    · cases z
      exact ⟨fun z => (m2.f p z).elim ht ex, hp⟩
    · refine ⟨(f2 a z).1, ?_⟩
      cases hq : H a with
      | none => rfl
      | some u => exact absurd (f2 a z).2 (m1.d a (some_ne hq))
  · cases z
    subst z2
    exact ex (f2 p ho).2
theorem u_L {a : M (List PyData)} (h1 : EvL K te a) (h2 : EvN K ta m) : EvN K (tCons te ta) (uL a m) := fun l g d l' g' s H S r A e h Q q => by
  replace e := mb_some e; obtain ⟨x, l1, g1, e1, e⟩ := e
  replace e := mb_some e; obtain ⟨xs, l2, g2, e2, e⟩ := e
  obtain ⟨rfl, rfl, rfl⟩ := mp_some e
  exact h1 _ _ _ _ _ s H S r A e1 h _ fun p ys H1 S1 r1 A1 m1 k1 hp ht sp hx hd => u_new (x := .own x) (Y := fun _ _ _ => True) h2 e2 m1 k1 hp ht ⟨p, rfl, rfl, sp, ys, hx, hd⟩ q
theorem u_C {a : M (List (Key × PyData))} (h1 : EvC K te a) (h2 : EvN K ta m) : EvN K (tCons te ta) (uC a m) := fun l g d l' g' s H S r A e h Q q => by
  replace e := mb_some e; obtain ⟨x, l1, g1, e1, e⟩ := e
  replace e := mb_some e; obtain ⟨xs, l2, g2, e2, e⟩ := e
  obtain ⟨rfl, rfl, rfl⟩ := mp_some e
  exact h1 _ _ _ _ _ s H S r A e1 h _ fun p ys H1 S1 r1 A1 m1 k1 hp ht sp hx hd => u_new (x := .dct x) (Y := fun _ _ _ => True) h2 e2 m1 k1 hp ht ⟨p, rfl, rfl, sp, ys, hx, hd⟩ q
theorem names_run {vs : List V} {xs : List Vl} {os : List (Option Addr)} {S0 H0 : Hp} {r0 : List Addr} {A0 : List (Option Addr)} {H S : Hp} {r : List Addr} {Q : L2.St → Hp → Prop} {g : Sg} (hn : NAll K S H r vs xs os) : ∀ {is : List Nat} {l : Lo} {s : L2.St} {A : List (Option Addr)}, xs.length = is.length → Mv S0 H0 r0 A0 S H r A → StOk K l g s H S r A → (∀ a, some a ∈ os → ¬ tr A r a ∧ H0 a = none) → Apart os →
    (∀ s' A', Mv S0 H0 r0 A0 S H r A' → StOk K (setsV l is xs) g s' H S r A' → Q s' H) → gNames is vs s H Q := by
  induction hn with
  | nil =>
    intro is l s A hl mv st hf hp q
    cases is with
    | nil => exact ⟨rfl, q s A mv st⟩
    | cons i is => cases hl
  | @cons v x o vs xs os h1 _ ih =>
    intro is l s A hl mv st hf hp q
    cases is with
    | nil => cases hl
    | cons i is =>
      refine ⟨_, _, rfl, ?_⟩
      show gNames is vs (s.set i (some v)) H Q
      cases hp with
      | cons hp1 hp2 =>
        cases o with
        | none => exact ih (by simpa using hl) mv.set (st.set h1) (fun a ha => ⟨fun z => (hf a (List.mem_cons_of_mem _ ha)).1 (trset z), (hf a (List.mem_cons_of_mem _ ha)).2⟩) hp2 q
        | some p =>
          have ev : v = .ref p := by
            cases x with
            | no => cases h1
            | dat d => cases h1.1
            | own ds => obtain ⟨a, e1, e2, _⟩ := h1; cases e1; cases e2; rfl
            | dct ds => obtain ⟨a, e1, e2, _⟩ := h1; cases e1; cases e2; rfl
            | ref j => cases h1.1
          subst ev
          obtain ⟨f1, f2⟩ := hf p List.mem_cons_self
          refine ih (by simpa using hl) (mv.fresh f2) (st.fresh (fun z => f1 (.inl z)) (fun z => f1 (.inr z)) h1) (fun a ha => ⟨fun z => ?_, (hf a (List.mem_cons_of_mem _ ha)).2⟩) hp2 q
          rcases z with z | z
          · rcases List.mem_or_eq_of_mem_set z with z | z
            · exact (hf a (List.mem_cons_of_mem _ ha)).1 (.inl z)
            · cases z; exact hp1 _ ha _ rfl rfl
          · exact (hf a (List.mem_cons_of_mem _ ha)).1 (.inr z)
theorem NAll.len {S H : Hp} {r : List Addr} {vs : List V} {xs : List Vl} {os : List (Option Addr)} (h : NAll K S H r vs xs os) : vs.length = xs.length := by
  induction h with
  | nil => rfl
  | cons _ _ ih => simp [ih]
theorem x_tup {is : List Nat} {n : Nat} (ha : EvN K ta m) (hn : is.length = n) : ExS K (tAsg (tTup ta) (gTup K n (gNames is))) (xTup is m) := fun l g o l' g' s H S r A e h D q => by
  replace e := mb_some e; obtain ⟨xs, l1, g1, e1, e⟩ := e
  split at e
  case isFalse => cases e
  rename_i hz
  cases e
  refine ha _ _ _ _ _ s H S r A e1 h _ fun vs os H1 S1 r1 A1 m1 k1 n1 f1 p1 => ⟨szl (by rw [n1.len]; exact hz.2), fun p hp => ⟨p, vs, rfl, .inl (.inl upd_same), by rw [n1.len, hz.1, hn], ?_⟩⟩
  have gr : Grow m0 S1 H1 (upd S1 p (.tup vs)) (upd H1 p (.tup vs)) := Grow.new k1.hs hp
  have n2 := n1.go gr.s (fun a ha => by
    have key : ∀ {vs : List V} {xs : List Vl} {os : List (Option Addr)}, NAll K S1 H1 r1 vs xs os → some a ∈ os → H1 a ≠ none ∧ S1 a = none := by
      intro vs xs os h
      induction h with
      | nil => intro z; cases z
      | cons h1 _ ih =>
        intro z
        rcases List.mem_cons.mp z with z | z
        · subst z; exact h1.there
        · exact ih z
    obtain ⟨q1, q2⟩ := key n1 ha
    exact ⟨gr.n a q2 q1, fun u hu => gr.all a u hu⟩) (r1 := r1) ⟨[], by simp⟩
  exact names_run n2 hz.1 (m1.trans (Mv.grow gr)) (k1.grow gr) f1 p1 fun s' A' m' h' => q s' _ _ _ _ m' h'
end
end Sm

namespace Sm
open PySem PySem.Spec PyProof.Rows L2 RZ SrtO Dz
/-! ### dicts by rules -/
section
variable {l l1 l2 l3 : Lo} {g g1 g2 g3 : Sg} {i j n : Nat} {a b c e : M PyData} {t : M Bool} {m : M (List PyData)} {w : M (List Vl)} {d d1 d2 d3 y x z : PyData} {ds es : List PyData} {p q : Bool} {kvs kvs0 : List (Key × PyData)} {k : Key} {vs : List Nat} {tg : G} {xs : List Vl}
theorem keyO_i {v : Int} : keyO (.int v) = some (.inl v) := rfl
theorem keyO_s {v : Str} : keyO (.str v) = some (.inr v) := rfl
theorem dcV_own (h : l[i]? = some (.dct kvs)) : dcV l g i = some kvs := by unfold dcV; rw [h]
theorem ptD_own (h : l[i]? = some (.dct kvs0)) : ptD l g i kvs = (l.set i (.dct kvs), g) := by unfold ptD; rw [h]
theorem mb_ev {α β : Type} {A : M α} {f : α → M β} {v : α} {r : Option (β × Lo × Sg)} (h : A l g = some (v, l1, g1)) (h2 : f v l1 g1 = r) : mb A f l g = r := by unfold mb; rw [h]; exact h2
theorem mg_ev {α : Type} {f : Lo → Sg → Option α} {v : α} (h : f l g = some v) : mg f l g = some (v, l, g) := by unfold mg; rw [h]
theorem eDget_ev (h0 : l[i]? = some (.dct kvs0)) (h1 : b l g = some (y, l1, g1)) (h2 : l1[i]? = some (.dct kvs)) (h3 : keyO y = some k) (h4 : valG kvs k = some d) : eDget i b l g = some (d, l1, g1) := by
  unfold eDget
  refine mb_ev (mg_ev (dcV_own h0)) (mb_ev h1 (mg_ev ?_))
  rw [dcV_own h2, Option.bind_some, h3, Option.bind_some, h4]
theorem eDget2_ev (h0 : l[i]? = some (.dct kvs0)) (h1 : b l g = some (y, l1, g1)) (h1' : c l1 g1 = some (z, l2, g2)) (h2 : l2[i]? = some (.dct kvs)) (h3 : keyO y = some k) : eDget2 i b c l g = some ((valG kvs k).getD z, l2, g2) := by
  unfold eDget2
  refine mb_ev (mg_ev (dcV_own h0)) (mb_ev h1 (mb_ev h1' (mg_ev ?_)))
  rw [dcV_own h2, Option.bind_some, h3]
  rfl
theorem eDin_ev (h1 : a l g = some (y, l1, g1)) (h2 : l1[i]? = some (.dct kvs)) (h3 : keyO y = some k) : eDin false a i l g = some (.bool (valG kvs k).isSome, l1, g1) := by
  unfold eDin
  refine mb_ev h1 (mg_ev ?_)
  rw [dcV_own h2, Option.bind_some, h3]
  rfl
theorem eDnot_ev (h1 : a l g = some (y, l1, g1)) (h2 : l1[i]? = some (.dct kvs)) (h3 : keyO y = some k) : eDin true a i l g = some (.bool (!(valG kvs k).isSome), l1, g1) := by
  unfold eDin
  refine mb_ev h1 (mg_ev ?_)
  rw [dcV_own h2, Option.bind_some, h3]
  rfl
theorem bTruD_ev (h : l[i]? = some (.dct kvs)) : bTruD i l g = some (!kvs.isEmpty, l, g) := mg_ev (by rw [dcV_own h]; rfl)
theorem lKeys_ev (h : l[i]? = some (.dct kvs)) : lKeys i l g = some (kvs.map fun kv => keyD kv.1, l, g) := mg_ev (by rw [dcV_own h]; rfl)
theorem eLenD_ev (h : l[i]? = some (.dct kvs)) : eLenD i l g = some (.int kvs.length, l, g) := mg_ev (by rw [dcV_own h]; rfl)
theorem lDnew_ev : lDnew l g = some ([], l, g) := rfl
theorem xAsgC_ev {q : M (List (Key × PyData))} (h : q l g = some (kvs, l1, g1)) : xAsgC i q l g = some (.nx, l1.set i (.dct kvs), g1) := mb_ev h rfl
theorem xDput_ev (h1 : a l g = some (x, l1, g1)) (h2 : l1[i]? = some (.dct kvs0)) (h3 : b l1 g1 = some (y, l2, g2)) (h4 : l2[i]? = some (.dct kvs)) (h5 : keyO y = some k) (hz : kvs.length < 100000) : xDput i b a l g = some (.nx, l2.set i (.dct (putG kvs k x)), g2) := by
  unfold xDput
  refine mb_ev h1 (mb_ev (mg_ev (dcV_own h2)) (mb_ev h3 ?_))
  simp only [dcV_own h4, h5, if_pos hz, ptD_own h4]
theorem xDpop_ev (h2 : l[i]? = some (.dct kvs0)) (h3 : b l g = some (y, l2, g2)) (h4 : l2[i]? = some (.dct kvs)) (h5 : keyO y = some k) (hk : (valG kvs k).isSome = true) : xDpop i b l g = some (.nx, l2.set i (.dct (dropG kvs k)), g2) := by
  unfold xDpop
  refine mb_ev (mg_ev (dcV_own h2)) (mb_ev h3 ?_)
  simp only [dcV_own h4, h5, if_pos hk, ptD_own h4]
theorem set_back {x : Vl} (h : l[i]? = some x) {y : Vl} : (l.set i y).set i x = l := by
  rw [List.set_set]
  apply List.ext_getElem?
  intro m
  by_cases him : i = m
  · subst him
    rw [List.getElem?_set_self (List.getElem?_eq_some_iff.mp h).1, h]
  · rw [List.getElem?_set_ne him]
theorem xItems_ev (h : l[i]? = some (.dct kvs)) (hp : plainAt vs (l.set i .no) = true) (hz : kvs.length ≤ 100000) (h1 : lcL vs tg t e (kvs.map pairD) (l.set i .no) g = some (ds, l.set i .no, g)) (hj : j < l.length) : xItems i j vs tg t e l g = some (.nx, l.set j (.dat (.list ds)), g) := by
  have hil := (List.getElem?_eq_some_iff.mp h).1
  unfold xItems
  simp only [h]
  rw [if_pos (by rw [hp, decide_eq_true hz]; rfl), h1]
  simp only [List.getElem?_set_self hil, List.length_set]
  rw [if_pos hj, set_back h]
theorem uNil_ev : uNil l g = some ([], l, g) := rfl
theorem uD_ev (h : a l g = some (d, l1, g1)) (h2 : w l1 g1 = some (xs, l2, g2)) : uD a w l g = some (.dat d :: xs, l2, g2) := mb_ev h (mb_ev h2 rfl)
theorem uL_ev (h : m l g = some (ds, l1, g1)) (h2 : w l1 g1 = some (xs, l2, g2)) : uL m w l g = some (.own ds :: xs, l2, g2) := mb_ev h (mb_ev h2 rfl)
theorem uC_ev {m : M (List (Key × PyData))} (h : m l g = some (kvs, l1, g1)) (h2 : w l1 g1 = some (xs, l2, g2)) : uC m w l g = some (.dct kvs :: xs, l2, g2) := mb_ev h (mb_ev h2 rfl)
theorem xTup2_ev (h : w l g = some ([.dat d, .own ds], l1, g1)) : xTup [i, j] w l g = some (.nx, (l1.set i (.dat d)).set j (.own ds), g1) := mb_ev h rfl
theorem xTup_ev {is : List Nat} (h : w l g = some (xs, l1, g1)) (hl : xs.length = is.length) (hz : xs.length ≤ 100000) : xTup is w l g = some (.nx, setsV l1 is xs, g1) := mb_ev h (if_pos ⟨hl, hz⟩)
/-- a dict comprehension that leaves all as it is -/
theorem lcD_pure {kx e : M PyData} {kf : PyData → Key} {q : PyData → Bool} {f : PyData → PyData} : ∀ {ds : List PyData} {acc : List (Key × PyData)}, (∀ d ∈ ds, ∃ l1 kd, tg d (wipeV l vs) = some l1 ∧ backV l l1 vs = l ∧ t l1 g = some (q d, l1, g) ∧ (q d = true → kx l1 g = some (kd, l1, g) ∧ keyO kd = some (kf d) ∧ e l1 g = some (f d, l1, g))) →
    lcD vs tg t kx e ds acc l g = some ((ds.filter q).foldl (fun acc d => putG acc (kf d) (f d)) acc, l, g)
  | [], acc, _ => rfl
  | d :: ds, acc, h => by
    obtain ⟨l1, kd, e1, e2, e3, e4⟩ := h d List.mem_cons_self
    have ih := fun acc => lcD_pure (ds := ds) (acc := acc) (kf := kf) (q := q) (f := f) fun d hd => h d (List.mem_cons_of_mem _ hd)
    unfold lcD
    simp only [e1, e3]
    cases hq : q d with
    | true =>
      obtain ⟨p1, p2, p3⟩ := e4 hq
      simp only [p1, p3, p2, e2, ih, List.filter_cons, hq, if_true, List.foldl_cons]
    | false => simp only [e2, ih, List.filter_cons, hq, Bool.false_eq_true, if_false]
theorem lDc_ev {kx : M PyData} (h : m l g = some (ds, l1, g1)) (hp : plainAt vs l1 = true) (hz : ds.length ≤ 100000) (h2 : lcD vs tg t kx e ds [] l1 g1 = some (kvs, l2, g2)) : lDc vs m tg t kx e l g = some (kvs, l2, g2) := mb_ev h (by rw [if_pos (by rw [hp, decide_eq_true hz]; rfl)]; exact h2)
theorem fold_put {α : Type} {kf : α → Key} {f : α → PyData} : ∀ {xs : List α} {acc : List (Key × PyData)}, (xs.map kf).Nodup → (∀ x ∈ xs, ∀ kv ∈ acc, kv.1 ≠ kf x) → xs.foldl (fun acc d => putG acc (kf d) (f d)) acc = acc ++ xs.map fun x => (kf x, f x)
  | [], acc, _, _ => by simp
  | x :: xs, acc, hn, ha => by
    rw [List.map_cons, List.nodup_cons] at hn
    rw [List.foldl_cons, putG_new fun kv hkv => ha x List.mem_cons_self kv hkv, fold_put hn.2 fun y hy kv hkv => ?_]
    · simp
    · rcases List.mem_append.mp hkv with z | z
      · exact ha y (List.mem_cons_of_mem _ hy) kv z
      · rw [List.mem_singleton] at z
        subst z
        exact fun z => hn.1 (by have z : kf x = kf y := z; rw [z]; exact List.mem_map.mpr ⟨y, hy, rfl⟩)
end
end Sm

namespace Sm
open PySem PySem.Spec PyProof.Rows L2 RZ SrtO Dz
/-! ### slots that are forgotten -/
def iWipe (vs : List Nat) (it : M (List PyData)) : M (List PyData) := mb it fun ds => fun l g => some (ds, wipeV l vs, g)
def xKeep (vs : List Nat) (x : X) : X := mb x fun o => fun l g => some (o, wipeV l vs, g)
def xPre (vs : List Nat) (x : X) : X := fun l g => x (wipeV l vs) g
section
variable {K : PySem.W.Frag} {l : Lo} {g : Sg} {s : L2.St} {H S H1 S1 : Hp} {r r1 : List Addr} {A A1 : List (Option Addr)} {vs : List Nat}
theorem StOk.forget (h : StOk K l g s H S r A) : StOk K (wipeV l vs) g s H S r (cutA A vs) :=
  ⟨h.hs, by rw [cutA_len, wipeV_len]; exact h.la, by rw [wipeV_len]; exact h.ls, fun j x e => by
    rw [wipeV_get] at e
    rw [cutA_get]
    by_cases hj : j ∈ vs
    · rw [if_pos hj] at e ⊢
      split at e
      · rename_i hl
        cases e
        obtain ⟨o, v, e1, e2, e3⟩ := h.ok j _ (List.getElem?_eq_getElem hl)
        exact ⟨none, v, by rw [if_pos (by rw [h.la]; exact hl)], e2, rfl⟩
      · cases e
    · rw [if_neg hj] at e ⊢
      exact h.ok j x e, fun i j a e1 e2 => h.ij i j a (cutA_some e1) (cutA_some e2), fun a ha => h.dr a (cutA_mem ha), h.rn, h.lg, h.st⟩
theorem s_iwipe {wi : TI} {it : M (List PyData)} (hi : EvI K wi it) : EvI K wi (iWipe vs it) := fun l g d l' g' s H S r A e h R q => by
  replace e := mb_some e; obtain ⟨ds, l1, g1, e1, e⟩ := e
  cases e
  exact hi _ _ _ _ _ s H S r A e1 h _ fun J H1 S1 r1 A1 m1 h1 w => q J H1 S1 r1 _ m1.cut h1.forget w
theorem x_keep {tu : TS} {x : X} (hx : ExS K tu x) : ExS K tu (xKeep vs x) := fun l g o l' g' s H S r A e h D q => by
  replace e := mb_some e; obtain ⟨o1, l1, g1, e1, e⟩ := e
  cases e
  exact hx _ _ _ _ _ s H S r A e1 h D fun s2 H2 S2 r2 A2 m2 h2 => q s2 H2 S2 r2 _ m2.cut h2.forget
theorem x_pre {tu : TS} {x : X} (hx : ExS K tu x) : ExS K tu (xPre vs x) := fun l g o l' g' s H S r A e h D q => by
  exact hx _ _ _ _ _ s H S r _ e (h.forget (vs := vs)) D fun s2 H2 S2 r2 A2 m2 h2 => q s2 H2 S2 r2 A2 (((Mv.refl h.hs).cut (vs := vs)).trans m2) h2
end
/-! ### what a word surely comes to -/
def Wp {α : Type} (m : M α) (l : Lo) (g : Sg) (Q : α → Lo → Sg → Prop) : Prop := ∃ a l' g', m l g = some (a, l', g') ∧ Q a l' g'
def Has {α : Type} (o : Option α) (Q : α → Prop) : Prop := ∃ a, o = some a ∧ Q a
def Br (p : Bool) (A B : Prop) : Prop := (p = true → A) ∧ (p = false → B)
def FOk (F : FS) (as : List Vl) (g : Sg) (Q : Vl → Sg → Prop) : Prop := ∃ v g', F as g = some (v, g') ∧ Q v g'
inductive SetR : Lo → Nat → Vl → Lo → Prop
  | z {x v : Vl} {l : Lo} : SetR (x :: l) 0 v (v :: l)
  | s {x v : Vl} {l l' : Lo} {i : Nat} (h : SetR l i v l') : SetR (x :: l) (i + 1) v (x :: l')
theorem SetR.eq {l l' : Lo} {i : Nat} {v : Vl} (h : SetR l i v l') : l' = l.set i v := by
  induction h with
  | z => rfl
  | s _ ih => rw [List.set_cons_succ, ih]
section
variable {α β : Type} {l l1 l2 l3 : Lo} {g g1 g2 g3 : Sg} {i j k : Nat} {p : Bool} {P R : Prop}
theorem br_T (h : p = true) (a : P) : Br p P R := ⟨fun _ => a, fun z => by rw [h] at z; cases z⟩
theorem br_F (h : p = false) (a : R) : Br p P R := ⟨fun z => by (rw [h] at z; cases z), fun _ => a⟩
theorem br_C (a : p = true → P) (b : p = false → R) : Br p P R := ⟨a, b⟩
theorem and_le {a b : Nat} (h : a ≤ b) (q : P) : a ≤ b ∧ P := ⟨h, q⟩
theorem and_bk {l0 l1 l2 : Lo} {vs : List Nat} (h : backV l0 l1 vs = l2) (q : P) : backV l0 l1 vs = l2 ∧ P := ⟨h, q⟩
theorem has_of {o : Option α} {a : α} {Q : α → Prop} (h : o = some a) (q : Q a) : Has o Q := ⟨a, h, q⟩
theorem has_some {a : α} {Q : α → Prop} (q : Q a) : Has (some a) Q := ⟨a, rfl, q⟩
theorem fok_eq {F : FS} {as : List Vl} {v : Vl} {Q : Vl → Sg → Prop} (h : F as g = some (v, g1)) (q : Q v g1) : FOk F as g Q := ⟨v, g1, h, q⟩
theorem fok_mono {F : FS} {as : List Vl} {Q Q' : Vl → Sg → Prop} (h : FOk F as g Q) (q : ∀ v g', Q v g' → Q' v g') : FOk F as g Q' := by
  obtain ⟨v, g', e, hq⟩ := h
  exact ⟨v, g', e, q v g' hq⟩
theorem fok_is {F : FS} {as : List Vl} {v : Vl} (h : FOk F as g fun v' g' => v' = v ∧ g' = g1) : F as g = some (v, g1) := by
  obtain ⟨v', g', e, rfl, rfl⟩ := h
  exact e
theorem wp_eq {m : M α} {Q : α → Lo → Sg → Prop} {a : α} (h : m l g = some (a, l1, g1)) (q : Q a l1 g1) : Wp m l g Q := ⟨a, l1, g1, h, q⟩
theorem wp_is {m : M α} {a : α} (h : Wp m l g fun a' l' g' => a' = a ∧ l' = l1 ∧ g' = g1) : m l g = some (a, l1, g1) := by
  obtain ⟨a', l', g', e, rfl, rfl, rfl⟩ := h
  exact e
theorem wp_mono {m : M α} {Q Q' : α → Lo → Sg → Prop} (h : Wp m l g Q) (q : ∀ a l' g', Q a l' g' → Q' a l' g') : Wp m l g Q' := by
  obtain ⟨a, l', g', e, hq⟩ := h
  exact ⟨a, l', g', e, q a l' g' hq⟩
theorem wp_mb {m : M α} {f : α → M β} {Q : β → Lo → Sg → Prop} (h : Wp m l g fun a l1 g1 => Wp (f a) l1 g1 Q) : Wp (mb m f) l g Q := by
  obtain ⟨a, l1, g1, e, b, l2, g2, e2, q⟩ := h
  exact ⟨b, l2, g2, by unfold mb; rw [e]; exact e2, q⟩
theorem wp_mp {a : α} {Q : α → Lo → Sg → Prop} (q : Q a l g) : Wp (mp a) l g Q := ⟨a, l, g, rfl, q⟩
theorem wp_mo {o : Option α} {Q : α → Lo → Sg → Prop} (h : Has o fun a => Q a l g) : Wp (mo o) l g Q := by
  obtain ⟨a, e, q⟩ := h
  exact ⟨a, l, g, by unfold mo; rw [e], q⟩
theorem wp_mg {f : Lo → Sg → Option α} {Q : α → Lo → Sg → Prop} (h : Has (f l g) fun a => Q a l g) : Wp (mg f) l g Q := by
  obtain ⟨a, e, q⟩ := h
  exact ⟨a, l, g, mg_ev e, q⟩
variable {a b c e : M PyData} {t u v : M Bool} {m m' : M (List PyData)} {d : PyData} {ds : List PyData} {f f' : PyData → PyData → Option PyData}
section
variable {Q : PyData → Lo → Sg → Prop}
theorem wp_eVar (h : l[i]? = some (.dat d)) (q : Q d l g) : Wp (eVar i) l g Q := wp_eq (eVar_ev h) q
theorem wp_eC (q : Q d l g) : Wp (eC d) l g Q := wp_eq eC_ev q
theorem wp_eOp (h : Wp a l g fun x l1 g1 => Wp b l1 g1 fun y l2 g2 => Has (f x y) fun z => Q z l2 g2) : Wp (eOp f a b) l g Q := wp_mb (wp_mono h fun _ _ _ h => wp_mb (wp_mono h fun _ _ _ h => wp_mo h))
theorem wp_eUn {f : PyData → Option PyData} (h : Wp a l g fun x l1 g1 => Has (f x) fun z => Q z l1 g1) : Wp (eUn f a) l g Q := wp_mb (wp_mono h fun _ _ _ h => wp_mo h)
theorem wp_eCB {f : List PyData → Option PyData} (h : Wp m l g fun x l1 g1 => Has (f x) fun z => Q z l1 g1) : Wp (eCB f m) l g Q := wp_mb (wp_mono h fun _ _ _ h => wp_mo h)
theorem wp_eTup (h : Wp m l g fun xs l1 g1 => xs.length ≤ 100000 ∧ Q (.tuple xs) l1 g1) : Wp (eTup m) l g Q := wp_mb (wp_mono h fun _ _ _ h => wp_mo ⟨_, if_pos h.1, h.2⟩)
theorem wp_eL (h : Wp m l g fun xs l1 g1 => Q (.list xs) l1 g1) : Wp (eL m) l g Q := wp_mb (wp_mono h fun _ _ _ h => wp_mp h)
theorem wp_ite {A B : M α} {Q : α → Lo → Sg → Prop} (h : Br p (Wp A l g Q) (Wp B l g Q)) : Wp (if p = true then A else B) l g Q := by
  cases p with
  | true => rw [if_pos rfl]; exact h.1 rfl
  | false => rw [if_neg Bool.false_ne_true]; exact h.2 rfl
theorem wp_eIf (h : Wp t l g fun p l1 g1 => Br p (Wp a l1 g1 Q) (Wp b l1 g1 Q)) : Wp (eIf t a b) l g Q := wp_mb (wp_mono h fun _ _ _ h => wp_ite h)
theorem wp_eAnd (h : Wp a l g fun x l1 g1 => Has (truO x) fun p => Br p (Wp b l1 g1 Q) (Q x l1 g1)) : Wp (eAnd a b) l g Q := wp_mb (wp_mono h fun _ _ _ h => wp_mb (wp_mo (h.imp fun _ h => ⟨h.1, wp_ite ⟨h.2.1, fun z => wp_mp (h.2.2 z)⟩⟩)))
theorem wp_eOr (h : Wp a l g fun x l1 g1 => Has (truO x) fun p => Br p (Q x l1 g1) (Wp b l1 g1 Q)) : Wp (eOr a b) l g Q := wp_mb (wp_mono h fun _ _ _ h => wp_mb (wp_mo (h.imp fun _ h => ⟨h.1, wp_ite ⟨fun z => wp_mp (h.2.1 z), h.2.2⟩⟩)))
/-- both sides are truths, the second asked only if the first is -/
theorem wp_eAndB (h : Wp a l g fun x l1 g1 => ∃ p q, x = .bool p ∧ (p = true → Wp b l1 g1 fun y l2 g2 => y = .bool q ∧ l2 = l1 ∧ g2 = g1) ∧ Q (.bool (p && q)) l1 g1) : Wp (eAnd a b) l g Q := by
  obtain ⟨x, l1, g1, e, p, q, rfl, h, hq⟩ := h
  exact ⟨_, l1, g1, eAnd_B e fun z => wp_is (h z), hq⟩
theorem wp_eOrB (h : Wp a l g fun x l1 g1 => ∃ p q, x = .bool p ∧ (p = false → Wp b l1 g1 fun y l2 g2 => y = .bool q ∧ l2 = l1 ∧ g2 = g1) ∧ Q (.bool (p || q)) l1 g1) : Wp (eOr a b) l g Q := by
  obtain ⟨x, l1, g1, e, p, q, rfl, h, hq⟩ := h
  exact ⟨_, l1, g1, eOr_B e fun z => wp_is (h z), hq⟩
theorem wp_eNot (h : Wp a l g fun x l1 g1 => Has (truO x) fun p => Q (.bool (!p)) l1 g1) : Wp (eNot a) l g Q := by
  obtain ⟨x, l1, g1, e, p, hp, q⟩ := h
  exact ⟨_, l1, g1, eNot_ev e hp, q⟩
theorem wp_eIsN (h : Wp a l g fun x l1 g1 => Q (.bool (isN x)) l1 g1) : Wp (eIsN a) l g Q := wp_mb (wp_mono h fun _ _ _ h => wp_mp h)
theorem wp_eNotN (h : Wp a l g fun x l1 g1 => Q (.bool (!isN x)) l1 g1) : Wp (eNotN a) l g Q := wp_mb (wp_mono h fun _ _ _ h => wp_mp h)
theorem wp_eChain (h : Wp a l g fun x l1 g1 => Wp b l1 g1 fun y l2 g2 => ∃ p q, f x y = some (.bool p) ∧ (p = true → Wp c l2 g2 fun w l3 g3 => l3 = l2 ∧ g3 = g2 ∧ f' y w = some (.bool q)) ∧ Q (.bool (p && q)) l2 g2) : Wp (eChain f f' a b c) l g Q := by
  refine wp_mb (wp_mono h fun x l1 g1 h => wp_mb (wp_mono h fun y l2 g2 h => ?_))
  obtain ⟨p, q, e, h, hq⟩ := h
  refine wp_mb (wp_mo ⟨p, by rw [e]; rfl, ?_⟩)
  cases p with
  | true =>
    rw [if_pos rfl]
    refine wp_mb (wp_mono (h rfl) fun w l3 g3 h => ?_)
    obtain ⟨rfl, rfl, e2⟩ := h
    exact wp_mo ⟨_, e2, hq⟩
  | false =>
    rw [if_neg Bool.false_ne_true]
    exact wp_mp hq
theorem wp_eSl {lo hi : M (Option Int)} (h : Wp a l g fun x l1 g1 => Wp lo l1 g1 fun i l2 g2 => Wp hi l2 g2 fun j l3 g3 => Has (slD x i j) fun z => Q z l3 g3) : Wp (eSl a lo hi) l g Q := wp_mb (wp_mono h fun _ _ _ h => wp_mb (wp_mono h fun _ _ _ h => wp_mb (wp_mono h fun _ _ _ h => wp_mo h)))
theorem wp_eIxV (h0 : lsV l g i = some ds) (h : Wp b l g fun y l1 g1 => ∃ es n, lsV l1 g1 i = some es ∧ y = .int n ∧ Has (atI es n) fun z => Q z l1 g1) : Wp (eIxV i b) l g Q := by
  obtain ⟨y, l1, g1, e, es, n, h1, rfl, z, hz, q⟩ := h
  exact ⟨z, l1, g1, eIxV_ev h0 e h1 hz, q⟩
theorem wp_eLenV (h : lsV l g i = some ds) (q : Q (.int ds.length) l g) : Wp (eLenV i) l g Q := wp_eq (eLenV_ev h) q
theorem wp_eTupleV (h : lsV l g i = some ds) (q : Q (.tuple ds) l g) : Wp (eTupleV i) l g Q := wp_eq (eTupleV_ev h) q
theorem wp_eSlV {lo hi : M (Option Int)} (h0 : lsV l g i = some ds) (h : Wp lo l g fun x l1 g1 => Wp hi l1 g1 fun y l2 g2 => ∃ es, lsV l2 g2 i = some es ∧ Q (.list (cutD es x y)) l2 g2) : Wp (eSlV i lo hi) l g Q := by
  obtain ⟨x, l1, g1, e1, y, l2, g2, e2, es, h1, q⟩ := h
  exact ⟨_, l2, g2, eSlV_ev h0 e1 e2 h1, q⟩
theorem wp_eInV {n : Bool} (h : Wp a l g fun x l1 g1 => ∃ es, lsV l1 g1 i = some es ∧ Has (inFD n x (.list es)) fun z => Q z l1 g1) : Wp (eInV n a i) l g Q := by
  obtain ⟨x, l1, g1, e1, es, h1, z, hz, q⟩ := h
  exact ⟨z, l1, g1, eInV_ev e1 h1 hz, q⟩
theorem wp_ePopO (h : l[i]? = some (.own ds)) (h2 : ds[ds.length - 1]? = some d) (hs : SetR l i (.own ds.dropLast) l1) (q : Q d l1 g) : Wp (ePop i) l g Q := by
  have e : lsM l g i = some ds := by unfold lsM; rw [h]
  have e2 : ptV l g i ds.dropLast = (l.set i (.own ds.dropLast), g) := by unfold ptV; rw [h]
  refine ⟨d, l1, g, ?_, q⟩
  rw [hs.eq, ePop_ev e h2, e2]
theorem wp_eDget (h0 : ∃ kvs, l[i]? = some (.dct kvs)) (h : Wp b l g fun y l1 g1 => ∃ kvs k, l1[i]? = some (.dct kvs) ∧ keyO y = some k ∧ Has (valG kvs k) fun z => Q z l1 g1) : Wp (eDget i b) l g Q := by
  obtain ⟨kv0, h0⟩ := h0
  obtain ⟨y, l1, g1, e, kvs, k, h1, h2, z, hz, q⟩ := h
  exact ⟨z, l1, g1, eDget_ev h0 e h1 h2 hz, q⟩
theorem wp_eDget2 (h0 : ∃ kvs, l[i]? = some (.dct kvs)) (h : Wp b l g fun y l1 g1 => Wp c l1 g1 fun z l2 g2 => ∃ kvs k, l2[i]? = some (.dct kvs) ∧ keyO y = some k ∧ Q ((valG kvs k).getD z) l2 g2) : Wp (eDget2 i b c) l g Q := by
  obtain ⟨kv0, h0⟩ := h0
  obtain ⟨y, l1, g1, e, z, l2, g2, e2, kvs, k, h1, h2, q⟩ := h
  exact ⟨_, l2, g2, eDget2_ev h0 e e2 h1 h2, q⟩
theorem wp_eDin (h : Wp a l g fun y l1 g1 => ∃ kvs k, l1[i]? = some (.dct kvs) ∧ keyO y = some k ∧ Q (.bool (valG kvs k).isSome) l1 g1) : Wp (eDin false a i) l g Q := by
  obtain ⟨y, l1, g1, e, kvs, k, h1, h2, q⟩ := h
  exact ⟨_, l1, g1, eDin_ev e h1 h2, q⟩
theorem wp_eDnot (h : Wp a l g fun y l1 g1 => ∃ kvs k, l1[i]? = some (.dct kvs) ∧ keyO y = some k ∧ Q (.bool (!(valG kvs k).isSome)) l1 g1) : Wp (eDin true a i) l g Q := by
  obtain ⟨y, l1, g1, e, kvs, k, h1, h2, q⟩ := h
  exact ⟨_, l1, g1, eDnot_ev e h1 h2, q⟩
theorem wp_eLenD {kvs : List (Key × PyData)} (h : l[i]? = some (.dct kvs)) (q : Q (.int kvs.length) l g) : Wp (eLenD i) l g Q := wp_eq (eLenD_ev h) q
theorem wp_eIsi {T : String} (h : Wp a l g fun x l1 g1 => ∃ p, kitB (tyN x) T = some p ∧ Q (.bool p) l1 g1) : Wp (eIsi T a) l g Q := by
  obtain ⟨x, l1, g1, e, p, hp, q⟩ := h
  exact ⟨_, l1, g1, eIsi_ev e hp, q⟩
theorem wp_eCall {F : FS} {w : M (List Vl)} (h : Wp w l g fun xs l1 g1 => FOk F xs g1 fun v g2 => ∃ d, v = .dat d ∧ Q d l1 g2) : Wp (eCall F w) l g Q := by
  obtain ⟨xs, l1, g1, e, v, g2, e2, d, rfl, q⟩ := h
  exact ⟨d, l1, g2, eCall_ev e e2, q⟩
theorem wp_eCallK {F : FS} {gs : List Vl → List Vl → List Vl} {w z : M (List Vl)} (h : Wp w l g fun xs l1 g1 => Wp z l1 g1 fun ys l2 g2 => FOk F (gs xs ys) g2 fun v g3 => ∃ d, v = .dat d ∧ Q d l2 g3) : Wp (eCallK F gs w z) l g Q := by
  obtain ⟨xs, l1, g1, e, ys, l2, g2, e2, v, g3, e3, d, rfl, q⟩ := h
  exact ⟨d, l2, g3, eCallK_ev e e2 e3, q⟩
theorem wp_eCallD {F : FS} {cs : List PyData} {w : M (List Vl)} (h : Wp w l g fun xs l1 g1 => FOk F (xs ++ cs.map .dat) g1 fun v g2 => ∃ d, v = .dat d ∧ Q d l1 g2) : Wp (eCallD F cs w) l g Q := by
  obtain ⟨xs, l1, g1, e, v, g2, e2, d, rfl, q⟩ := h
  exact ⟨d, l1, g2, eCallD_ev e e2, q⟩
end
section
variable {Q : List Vl → Lo → Sg → Prop}
theorem wp_vNil (q : Q [] l g) : Wp vNil l g Q := wp_mp q
theorem wp_vE {w : M (List Vl)} (h : Wp a l g fun d l1 g1 => Wp w l1 g1 fun xs l2 g2 => Q (.dat d :: xs) l2 g2) : Wp (vCons (vE a) w) l g Q := wp_mb (wp_mb (wp_mono h fun _ _ _ h => wp_mp (wp_mb (wp_mono h fun _ _ _ h => wp_mp h))))
theorem wp_vR {w : M (List Vl)} (h0 : l[i]? = some (.ref j)) (h : Wp w l g fun xs l2 g2 => Q (.ref j :: xs) l2 g2) : Wp (vCons (vR i) w) l g Q := by
  obtain ⟨xs, l2, g2, e, q⟩ := h
  exact ⟨_, l2, g2, vCons_ev (vR_ev h0) e, q⟩
end
section
variable {Q : List PyData → Lo → Sg → Prop}
theorem wp_aNil (q : Q [] l g) : Wp aNil l g Q := wp_mp q
theorem wp_aCons (h : Wp a l g fun x l1 g1 => Wp m l1 g1 fun xs l2 g2 => Q (x :: xs) l2 g2) : Wp (aCons a m) l g Q := wp_mb (wp_mono h fun _ _ _ h => wp_mb (wp_mono h fun _ _ _ h => wp_mp h))
theorem wp_lLst (h : Wp m l g fun xs l1 g1 => xs.length ≤ 100000 ∧ Q xs l1 g1) : Wp (lLst m) l g Q := wp_mb (wp_mono h fun _ _ _ h => wp_mo ⟨_, if_pos h.1, h.2⟩)
theorem wp_iSq (h : Wp a l g fun x l1 g1 => Has (seqD x) fun ds => Q ds l1 g1) : Wp (iSq a) l g Q := wp_mb (wp_mono h fun _ _ _ h => wp_mo h)
theorem wp_lList (h : Wp a l g fun x l1 g1 => Has (seqD x) fun ds => Q ds l1 g1) : Wp (lList a) l g Q := wp_iSq h
theorem wp_iRg1 (h : Wp a l g fun x l1 g1 => ∃ n, x = .int n ∧ (n ≤ 100000 ∧ -100000 ≤ n) ∧ Q (rng 0 n.toNat) l1 g1) : Wp (iRg1 a) l g Q := by
  obtain ⟨x, l1, g1, e, n, rfl, hn, q⟩ := h
  exact ⟨_, l1, g1, iRg1_ev e hn, q⟩
theorem wp_lListRg (h : Wp a l g fun x l1 g1 => ∃ n, x = .int n ∧ (n ≤ 100000 ∧ -100000 ≤ n) ∧ Q (rng 0 n.toNat) l1 g1) : Wp (lListRg a) l g Q := wp_iRg1 h
theorem wp_iRg2 (h : Wp a l g fun x l1 g1 => Wp b l1 g1 fun y l2 g2 => ∃ m n, x = .int m ∧ y = .int n ∧ (m ≤ 100000 ∧ -100000 ≤ m) ∧ (n ≤ 100000 ∧ -100000 ≤ n) ∧ Q (rng m (n - m).toNat) l2 g2) : Wp (iRg2 a b) l g Q := by
  obtain ⟨x, l1, g1, e, y, l2, g2, e2, m, n, rfl, rfl, hm, hn, q⟩ := h
  exact ⟨_, l2, g2, iRg2_ev e e2 hm hn, q⟩
theorem wp_lListRg2 (h : Wp a l g fun x l1 g1 => Wp b l1 g1 fun y l2 g2 => ∃ m n, x = .int m ∧ y = .int n ∧ (m ≤ 100000 ∧ -100000 ≤ m) ∧ (n ≤ 100000 ∧ -100000 ≤ n) ∧ Q (rng m (n - m).toNat) l2 g2) : Wp (lListRg2 a b) l g Q := wp_iRg2 h
theorem wp_iEn (h : Wp a l g fun x l1 g1 => ∃ ds, x = .list ds ∧ Q (enumD ds) l1 g1) : Wp (iEn a) l g Q := by
  obtain ⟨x, l1, g1, e, ds, rfl, q⟩ := h
  exact ⟨_, l1, g1, iEn_ev e, q⟩
theorem wp_iZpT (h : Wp a l g fun x l1 g1 => Wp b l1 g1 fun y l2 g2 => ∃ ds es, x = .tuple ds ∧ y = .tuple es ∧ Q (zipD ds es) l2 g2) : Wp (iZp a b) l g Q := by
  obtain ⟨x, l1, g1, e, y, l2, g2, e2, ds, es, rfl, rfl, q⟩ := h
  exact ⟨_, l2, g2, iZp_T e e2, q⟩
theorem wp_iZpL (h : Wp a l g fun x l1 g1 => Wp b l1 g1 fun y l2 g2 => ∃ ds es, x = .list ds ∧ y = .list es ∧ Q (zipD ds es) l2 g2) : Wp (iZp a b) l g Q := by
  obtain ⟨x, l1, g1, e, y, l2, g2, e2, ds, es, rfl, rfl, q⟩ := h
  exact ⟨_, l2, g2, iZp_L e e2, q⟩
theorem wp_lRep (h : Wp m l g fun ds l1 g1 => Wp b l1 g1 fun y l2 g2 => ∃ n, y = .int n ∧ (n ≤ 1000 ∧ -1000 ≤ n) ∧ ds.length ≤ 100 ∧ Q (List.replicate n.toNat ds).flatten l2 g2) : Wp (lRep m b) l g Q := by
  obtain ⟨x, l1, g1, e, y, l2, g2, e2, n, rfl, hn, hd, q⟩ := h
  exact ⟨_, l2, g2, lRep_ev e e2 hn hd, q⟩
theorem wp_lListV (h : lsV l g i = some ds) (q : Q ds l g) : Wp (lListV i) l g Q := wp_eq (lListV_ev h) q
theorem wp_lKeys {kvs : List (Key × PyData)} (h : l[i]? = some (.dct kvs)) (q : Q (kvs.map fun kv => keyD kv.1) l g) : Wp (lKeys i) l g Q := wp_eq (lKeys_ev h) q
theorem wp_iWipe {vs : List Nat} (h : Wp m l g fun ds l1 g1 => Q ds (wipeV l1 vs) g1) : Wp (iWipe vs m) l g Q := by
  obtain ⟨ds, l1, g1, e, q⟩ := h
  exact ⟨ds, wipeV l1 vs, g1, by unfold iWipe mb; rw [e], q⟩
/-- a comprehension over ds, worked out elsewhere -/
def LcW (vs : List Nat) (tg : G) (t : M Bool) (e : M PyData) (ds : List PyData) (l : Lo) (g : Sg) (Q : List PyData → Lo → Sg → Prop) : Prop := ∃ es l' g', lcO vs tg t e ds l g = some (es, l', g') ∧ Q es l' g'
theorem wp_lLc {vs : List Nat} {tg : G} (h : Wp m l g fun ds l1 g1 => LcW vs tg t e ds l1 g1 Q) : Wp (lLc vs m tg t e) l g Q := by
  obtain ⟨ds, l1, g1, e1, es, l2, g2, e2, q⟩ := h
  exact ⟨es, l2, g2, lLc_ev e1 e2, q⟩
end
section
variable {Q : Bool → Lo → Sg → Prop}
theorem wp_bYes (q : Q true l g) : Wp bYes l g Q := wp_mp q
theorem wp_bTest (h : Wp a l g fun x l1 g1 => ∃ p, x = .bool p ∧ Q p l1 g1) : Wp (bTest a) l g Q := by
  obtain ⟨x, l1, g1, e, p, rfl, q⟩ := h
  exact ⟨p, l1, g1, bTest_ev e, q⟩
theorem wp_bTru (h : Wp a l g fun x l1 g1 => Has (truO x) fun p => Q p l1 g1) : Wp (bTru a) l g Q := wp_mb (wp_mono h fun _ _ _ h => wp_mo h)
theorem wp_bTruV (h : lsV l g i = some ds) (q : Q (!ds.isEmpty) l g) : Wp (bTruV i) l g Q := wp_eq (bTruV_ev h) q
theorem wp_bTruD {kvs : List (Key × PyData)} (h : l[i]? = some (.dct kvs)) (q : Q (!kvs.isEmpty) l g) : Wp (bTruD i) l g Q := wp_eq (bTruD_ev h) q
theorem wp_bNot (h : Wp t l g fun p l1 g1 => Q (!p) l1 g1) : Wp (bNot t) l g Q := wp_mb (wp_mono h fun _ _ _ h => wp_mp h)
theorem wp_bAnd (h : Wp t l g fun p l1 g1 => Br p (Wp u l1 g1 Q) (Q false l1 g1)) : Wp (bAnd t u) l g Q := wp_mb (wp_mono h fun _ _ _ h => wp_ite ⟨h.1, fun z => wp_mp (h.2 z)⟩)
theorem wp_bOr (h : Wp t l g fun p l1 g1 => Br p (Q true l1 g1) (Wp u l1 g1 Q)) : Wp (bOr t u) l g Q := wp_mb (wp_mono h fun _ _ _ h => wp_ite ⟨fun z => wp_mp (h.1 z), h.2⟩)
theorem wp_bAndB (h : Wp t l g fun p l1 g1 => ∃ q, (p = true → Wp u l1 g1 fun y l2 g2 => y = q ∧ l2 = l1 ∧ g2 = g1) ∧ Q (p && q) l1 g1) : Wp (bAnd t u) l g Q := by
  obtain ⟨p, l1, g1, e, q, h, hq⟩ := h
  exact ⟨_, l1, g1, bAnd_B e fun z => wp_is (h z), hq⟩
theorem wp_bOrB (h : Wp t l g fun p l1 g1 => ∃ q, (p = false → Wp u l1 g1 fun y l2 g2 => y = q ∧ l2 = l1 ∧ g2 = g1) ∧ Q (p || q) l1 g1) : Wp (bOr t u) l g Q := by
  obtain ⟨p, l1, g1, e, q, h, hq⟩ := h
  exact ⟨_, l1, g1, bOr_B e fun z => wp_is (h z), hq⟩
theorem wp_bIf (h : Wp t l g fun p l1 g1 => Br p (Wp u l1 g1 Q) (Wp v l1 g1 Q)) : Wp (bIf t u v) l g Q := wp_mb (wp_mono h fun _ _ _ h => wp_ite h)
end
section
variable {Q : Option Int → Lo → Sg → Prop}
theorem wp_oNone (q : Q none l g) : Wp oNone l g Q := wp_mp q
theorem wp_oSome (h : Wp a l g fun x l1 g1 => ∃ n, x = .int n ∧ Q (some n) l1 g1) : Wp (oSome a) l g Q := by
  obtain ⟨x, l1, g1, e, n, rfl, q⟩ := h
  exact ⟨_, l1, g1, oSome_ev e, q⟩
end
section
variable {Q : List (Key × PyData) → Lo → Sg → Prop}
theorem wp_lDnew (q : Q [] l g) : Wp lDnew l g Q := wp_mp q
def DcW (vs : List Nat) (tg : G) (t : M Bool) (k e : M PyData) (ds : List PyData) (l : Lo) (g : Sg) (Q : List (Key × PyData) → Lo → Sg → Prop) : Prop := plainAt vs l = true ∧ ds.length ≤ 100000 ∧ ∃ es l' g', lcD vs tg t k e ds [] l g = some (es, l', g') ∧ Q es l' g'
theorem wp_lDc {vs : List Nat} {tg : G} {k : M PyData} (h : Wp m l g fun ds l1 g1 => DcW vs tg t k e ds l1 g1 Q) : Wp (lDc vs m tg t k e) l g Q := by
  obtain ⟨ds, l1, g1, e1, h1, h2, es, l2, g2, e2, q⟩ := h
  exact ⟨es, l2, g2, lDc_ev e1 h1 h2 e2, q⟩
end
/-! statements -/
def seqK (B : X) (Q : Out → Lo → Sg → Prop) : Out → Lo → Sg → Prop
  | .nx, l, g => Wp B l g Q
  | o, l, g => Q o l g
def retK (Q : Vl → Sg → Prop) : Out → Lo → Sg → Prop
  | .ret v, _, g => Q v g
  | .nx, _, g => Q (.dat .none) g
  | _, _, _ => False
def bodyK (N : Lo → Sg → Prop) (Q : Out → Lo → Sg → Prop) : Out → Lo → Sg → Prop
  | .nx, l, g => N l g
  | .ct, l, g => N l g
  | .bk, l, g => Q .nx l g
  | .ret v, l, g => Q (.ret v) l g
section
variable {Q : Out → Lo → Sg → Prop} {A B : Sm.X} {o : Out} {N : Lo → Sg → Prop} {w : Vl}
theorem seqK_nx (h : Wp B l g Q) : seqK B Q .nx l g := h
theorem seqK_bk (h : Q .bk l g) : seqK B Q .bk l g := h
theorem seqK_ct (h : Q .ct l g) : seqK B Q .ct l g := h
theorem seqK_ret (h : Q (.ret w) l g) : seqK B Q (.ret w) l g := h
theorem retK_ret {Q : Vl → Sg → Prop} (h : Q w g) : retK Q (.ret w) l g := h
theorem retK_nx {Q : Vl → Sg → Prop} (h : Q (.dat .none) g) : retK Q .nx l g := h
theorem bodyK_nx (h : N l g) : bodyK N Q .nx l g := h
theorem bodyK_ct (h : N l g) : bodyK N Q .ct l g := h
theorem bodyK_bk (h : Q .nx l g) : bodyK N Q .bk l g := h
theorem bodyK_ret (h : Q (.ret w) l g) : bodyK N Q (.ret w) l g := h
theorem wp_seq (h : Wp A l g (seqK B Q)) : Wp (xSeq A B) l g Q := by
  refine wp_mb (wp_mono h fun o l1 g1 h => ?_)
  cases o with
  | nx => exact h
  | bk => exact wp_mp h
  | ct => exact wp_mp h
  | ret w => exact wp_mp h
theorem wp_next (h : Q .nx l g) : Wp xNext l g Q := wp_mp h
theorem wp_break (h : Q .bk l g) : Wp xBreak l g Q := wp_mp h
theorem wp_cont (h : Q .ct l g) : Wp xCont l g Q := wp_mp h
theorem wp_asg (h : Wp e l g fun d l1 g1 => ∃ l2, SetR l1 i (.dat d) l2 ∧ Q .nx l2 g1) : Wp (xAsg i e) l g Q := by
  obtain ⟨d, l1, g1, e1, l2, hs, q⟩ := h
  exact ⟨_, l2, g1, by rw [hs.eq]; exact xAsg_ev e1, q⟩
theorem wp_asgG {G : G} (h : Wp e l g fun d l1 g1 => Has (G d l1) fun l2 => Q .nx l2 g1) : Wp (xAsgG G e) l g Q := by
  obtain ⟨d, l1, g1, e1, l2, hs, q⟩ := h
  exact ⟨_, l2, g1, xAsgG_ev e1 hs, q⟩
theorem wp_asgL (h : Wp m l g fun ds l1 g1 => ∃ l2, SetR l1 i (.own ds) l2 ∧ Q .nx l2 g1) : Wp (xAsgL i m) l g Q := by
  obtain ⟨d, l1, g1, e1, l2, hs, q⟩ := h
  exact ⟨_, l2, g1, by rw [hs.eq]; exact xAsgL_ev e1, q⟩
theorem wp_asgC {z : M (List (Key × PyData))} (h : Wp z l g fun ds l1 g1 => ∃ l2, SetR l1 i (.dct ds) l2 ∧ Q .nx l2 g1) : Wp (xAsgC i z) l g Q := by
  obtain ⟨d, l1, g1, e1, l2, hs, q⟩ := h
  exact ⟨_, l2, g1, by rw [hs.eq]; exact xAsgC_ev e1, q⟩
theorem wp_newL (h : Wp m l g fun ds l1 g1 => ∃ l2, SetR l1 i (.ref g1.length) l2 ∧ Q .nx l2 (g1 ++ [.lst ds])) : Wp (xNewL i m) l g Q := by
  obtain ⟨d, l1, g1, e1, l2, hs, q⟩ := h
  exact ⟨_, l2, _, by rw [hs.eq]; exact xNewL_ev e1, q⟩
theorem wp_if (h : Wp t l g fun p l1 g1 => Br p (Wp A l1 g1 Q) (Wp B l1 g1 Q)) : Wp (xIf t A B) l g Q := wp_mb (wp_mono h fun _ _ _ h => wp_ite h)
theorem wp_ret (h : Wp e l g fun d l1 g1 => Q (.ret (.dat d)) l1 g1) : Wp (xRet e) l g Q := wp_mb (wp_mono h fun _ _ _ h => wp_mp h)
theorem wp_retN (h : Q (.ret (.dat .none)) l g) : Wp xRetN l g Q := wp_mp h
theorem wp_drop (h : Wp e l g fun _ l1 g1 => Q .nx l1 g1) : Wp (xDrop e) l g Q := wp_mb (wp_mono h fun _ _ _ h => wp_mp h)
theorem wp_app (h0 : ∃ es, l[i]? = some (.own es)) (h : Wp e l g fun d l1 g1 => ∃ ds l2, l1[i]? = some (.own ds) ∧ ds.length < 100000 ∧ SetR l1 i (.own (ds ++ [d])) l2 ∧ Q .nx l2 g1) : Wp (xApp i e) l g Q := by
  obtain ⟨es, h0⟩ := h0
  obtain ⟨d, l1, g1, e1, ds, l2, h1, hz, hs, q⟩ := h
  refine ⟨_, l2, g1, ?_, q⟩
  have a1 : lsM l g i = some es := by unfold lsM; rw [h0]
  have a2 : lsM l1 g1 i = some ds := by unfold lsM; rw [h1]
  have a3 : ptV l1 g1 i (ds ++ [d]) = (l1.set i (.own (ds ++ [d])), g1) := by unfold ptV; rw [h1]
  rw [hs.eq, xApp_ev a1 e1 a2 hz, a3]
theorem wp_setI {bb : M PyData} (h : Wp e l g fun d l1 g1 => (∃ es, l1[i]? = some (.own es)) ∧ Wp bb l1 g1 fun y l2 g2 => ∃ n ds l3, y = .int n ∧ l2[i]? = some (.own ds) ∧ (0 ≤ n ∧ n < ds.length) ∧ SetR l2 i (.own (ds.set n.toNat d)) l3 ∧ Q .nx l3 g2) : Wp (xSetI i bb e) l g Q := by
  obtain ⟨d, l1, g1, e1, ⟨es, h0⟩, y, l2, g2, e2, n, ds, l3, rfl, h1, hn, hs, q⟩ := h
  refine ⟨_, l3, g2, ?_, q⟩
  have a1 : lsM l1 g1 i = some es := by unfold lsM; rw [h0]
  have a2 : lsM l2 g2 i = some ds := by unfold lsM; rw [h1]
  have a3 : ptV l2 g2 i (ds.set n.toNat d) = (l2.set i (.own (ds.set n.toNat d)), g2) := by unfold ptV; rw [h1]
  rw [hs.eq, xSetI_ev e1 a1 e2 a2 (ixN_in hn), a3]
theorem wp_aug (h0 : l[i]? = some (.dat d)) (h : Wp e l g fun y l1 g1 => Has (f d y) fun z => ∃ l2, SetR l1 i (.dat z) l2 ∧ Q .nx l2 g1) : Wp (xAug i f e) l g Q := by
  obtain ⟨y, l1, g1, e1, z, hz, l2, hs, q⟩ := h
  exact ⟨_, l2, g1, by rw [hs.eq]; exact xAug_ev h0 e1 hz, q⟩
theorem wp_frzO (h0 : l[i]? = some (.own ds)) (hs : SetR l i (.dat (.list ds)) l1) (h : Wp A l1 g Q) : Wp (xFrz i A) l g Q := by
  obtain ⟨o, l2, g2, e, q⟩ := h
  exact ⟨o, l2, g2, xFrz_O h0 (by rw [← hs.eq]; exact e), q⟩
theorem wp_frzD (h0 : l[i]? = some (.dat d)) (h : Wp A l g Q) : Wp (xFrz i A) l g Q := by
  obtain ⟨o, l2, g2, e, q⟩ := h
  exact ⟨o, l2, g2, xFrz_D h0 e, q⟩
theorem wp_par (h : Wp a l g fun x l1 g1 => Wp b l1 g1 fun y l2 g2 => ∃ l3 l4, SetR l2 i (.dat x) l3 ∧ SetR l3 j (.dat y) l4 ∧ Q .nx l4 g2) : Wp (xPar i j a b) l g Q := by
  obtain ⟨x, l1, g1, e1, y, l2, g2, e2, l3, l4, s1, s2, q⟩ := h
  exact ⟨_, l4, g2, by rw [s2.eq, s1.eq]; exact xPar_ev e1 e2, q⟩
theorem wp_parDL (h : Wp a l g fun x l1 g1 => Wp m l1 g1 fun y l2 g2 => ∃ l3 l4, SetR l2 i (.dat x) l3 ∧ SetR l3 j (.own y) l4 ∧ Q .nx l4 g2) : Wp (xParDL i j a m) l g Q := by
  obtain ⟨x, l1, g1, e1, y, l2, g2, e2, l3, l4, s1, s2, q⟩ := h
  exact ⟨_, l4, g2, by rw [s2.eq, s1.eq]; exact xParDL_ev e1 e2, q⟩
theorem wp_parLD (h : Wp m l g fun x l1 g1 => Wp b l1 g1 fun y l2 g2 => ∃ l3 l4, SetR l2 i (.own x) l3 ∧ SetR l3 j (.dat y) l4 ∧ Q .nx l4 g2) : Wp (xParLD i j m b) l g Q := by
  obtain ⟨x, l1, g1, e1, y, l2, g2, e2, l3, l4, s1, s2, q⟩ := h
  exact ⟨_, l4, g2, by rw [s2.eq, s1.eq]; exact xParLD_ev e1 e2, q⟩
theorem wp_parLL (h : Wp m l g fun x l1 g1 => Wp m' l1 g1 fun y l2 g2 => ∃ l3 l4, SetR l2 i (.own x) l3 ∧ SetR l3 j (.own y) l4 ∧ Q .nx l4 g2) : Wp (xParLL i j m m') l g Q := by
  obtain ⟨x, l1, g1, e1, y, l2, g2, e2, l3, l4, s1, s2, q⟩ := h
  exact ⟨_, l4, g2, by rw [s2.eq, s1.eq]; exact xParLL_ev e1 e2, q⟩
theorem wp_par3 (h : Wp m l g fun xs l1 g1 => ∃ x y z l2 l3 l4, xs = [x, y, z] ∧ SetR l1 i (.dat x) l2 ∧ SetR l2 j (.dat y) l3 ∧ SetR l3 k (.dat z) l4 ∧ Q .nx l4 g1) : Wp (xPar3 i j k m) l g Q := by
  obtain ⟨xs, l1, g1, e1, x, y, z, l2, l3, l4, rfl, s1, s2, s3, q⟩ := h
  exact ⟨_, l4, g1, by rw [s3.eq, s2.eq, s1.eq]; exact xPar3_ev e1, q⟩
theorem wp_dput {bb : M PyData} (h : Wp a l g fun x l1 g1 => (∃ kvs, l1[i]? = some (.dct kvs)) ∧ Wp bb l1 g1 fun y l2 g2 => ∃ kvs k l3, l2[i]? = some (.dct kvs) ∧ keyO y = some k ∧ kvs.length < 100000 ∧ SetR l2 i (.dct (putG kvs k x)) l3 ∧ Q .nx l3 g2) : Wp (xDput i bb a) l g Q := by
  obtain ⟨x, l1, g1, e1, ⟨kv0, h0⟩, y, l2, g2, e2, kvs, k, l3, h1, hk, hz, hs, q⟩ := h
  exact ⟨_, l3, g2, by rw [hs.eq]; exact xDput_ev e1 h0 e2 h1 hk hz, q⟩
theorem wp_dpop {bb : M PyData} (h0 : ∃ kvs, l[i]? = some (.dct kvs)) (h : Wp bb l g fun y l2 g2 => ∃ kvs k l3, l2[i]? = some (.dct kvs) ∧ keyO y = some k ∧ (valG kvs k).isSome = true ∧ SetR l2 i (.dct (dropG kvs k)) l3 ∧ Q .nx l3 g2) : Wp (xDpop i bb) l g Q := by
  obtain ⟨kv0, h0⟩ := h0
  obtain ⟨y, l2, g2, e2, kvs, k, l3, h1, hk, hz, hs, q⟩ := h
  exact ⟨_, l3, g2, by rw [hs.eq]; exact xDpop_ev h0 e2 h1 hk hz, q⟩
theorem wp_tup2 {ww : M (List Vl)} (h : Wp ww l g fun xs l1 g1 => ∃ x y l3 l4, xs = [x, y] ∧ SetR l1 i x l3 ∧ SetR l3 j y l4 ∧ Q .nx l4 g1) : Wp (xTup [i, j] ww) l g Q := by
  obtain ⟨xs, l1, g1, e1, x, y, l3, l4, rfl, s1, s2, q⟩ := h
  exact ⟨_, l4, g1, by rw [s2.eq, s1.eq]; exact xTup_ev (is := [i, j]) e1 rfl (by simp), q⟩
theorem wp_tup3 {ww : M (List Vl)} (h : Wp ww l g fun xs l1 g1 => ∃ x y z l3 l4 l5, xs = [x, y, z] ∧ SetR l1 i x l3 ∧ SetR l3 j y l4 ∧ SetR l4 k z l5 ∧ Q .nx l5 g1) : Wp (xTup [i, j, k] ww) l g Q := by
  obtain ⟨xs, l1, g1, e1, x, y, z, l3, l4, l5, rfl, s1, s2, s3, q⟩ := h
  exact ⟨_, l5, g1, by rw [s3.eq, s2.eq, s1.eq]; exact xTup_ev (is := [i, j, k]) e1 rfl (by simp), q⟩
theorem wp_tup4 {n : Nat} {ww : M (List Vl)} (h : Wp ww l g fun xs l1 g1 => ∃ x y z u l3 l4 l5 l6, xs = [x, y, z, u] ∧ SetR l1 i x l3 ∧ SetR l3 j y l4 ∧ SetR l4 k z l5 ∧ SetR l5 n u l6 ∧ Q .nx l6 g1) : Wp (xTup [i, j, k, n] ww) l g Q := by
  obtain ⟨xs, l1, g1, e1, x, y, z, u, l3, l4, l5, l6, rfl, s1, s2, s3, s4, q⟩ := h
  exact ⟨_, l6, g1, by rw [s4.eq, s3.eq, s2.eq, s1.eq]; exact xTup_ev (is := [i, j, k, n]) e1 rfl (by simp), q⟩
section
variable {Q : List Vl → Lo → Sg → Prop} {ww : M (List Vl)}
theorem wp_uNil (q : Q [] l g) : Wp uNil l g Q := wp_mp q
theorem wp_uD (h : Wp a l g fun d l1 g1 => Wp ww l1 g1 fun xs l2 g2 => Q (.dat d :: xs) l2 g2) : Wp (uD a ww) l g Q := wp_mb (wp_mono h fun _ _ _ h => wp_mb (wp_mono h fun _ _ _ h => wp_mp h))
theorem wp_uL (h : Wp m l g fun d l1 g1 => Wp ww l1 g1 fun xs l2 g2 => Q (.own d :: xs) l2 g2) : Wp (uL m ww) l g Q := wp_mb (wp_mono h fun _ _ _ h => wp_mb (wp_mono h fun _ _ _ h => wp_mp h))
theorem wp_uC {z : M (List (Key × PyData))} (h : Wp z l g fun d l1 g1 => Wp ww l1 g1 fun xs l2 g2 => Q (.dct d :: xs) l2 g2) : Wp (uC z ww) l g Q := wp_mb (wp_mono h fun _ _ _ h => wp_mb (wp_mono h fun _ _ _ h => wp_mp h))
end
theorem wp_keep {vs : List Nat} (h : Wp A l g fun o l1 g1 => Q o (wipeV l1 vs) g1) : Wp (xKeep vs A) l g Q := by
  obtain ⟨o, l1, g1, e, q⟩ := h
  exact ⟨o, wipeV l1 vs, g1, by unfold xKeep mb; rw [e], q⟩
theorem wp_pre {vs : List Nat} (h : Wp A (wipeV l vs) g Q) : Wp (xPre vs A) l g Q := h
theorem wp_for {G : G} (h : Wp m l g fun ds l1 g1 => Wp (xForL G A ds) l1 g1 Q) : Wp (xFor m G A) l g Q := by
  obtain ⟨ds, l1, g1, e, o, l2, g2, e2, q⟩ := h
  exact ⟨o, l2, g2, xFor_ev e e2, q⟩
theorem wp_forNil {G : G} (h : Q .nx l g) : Wp (xForL G A []) l g Q := ⟨.nx, l, g, rfl, h⟩
theorem wp_forCons {G : G} (h : Has (G d l) fun l1 => Wp A l1 g (bodyK (fun l g => Wp (xForL G A ds) l g Q) Q)) : Wp (xForL G A (d :: ds)) l g Q := by
  obtain ⟨l1, e1, o, l2, g2, e2, q⟩ := h
  unfold Wp
  rw [xForL_cons, e1, oo_some, e2]
  cases o with
  | nx => rw [ol_nx]; exact q
  | ct => rw [ol_ct]; exact q
  | bk => rw [ol_bk]; exact ⟨_, _, _, rfl, q⟩
  | ret v => rw [ol_ret]; exact ⟨_, _, _, rfl, q⟩
/-- a for by what holds ahead of each turn -/
theorem wp_forI {G : G} (I : Nat → Lo → Sg → Prop) (h0 : I 0 l g) (hs : ∀ i d l g, ds[i]? = some d → I i l g → Has (G d l) fun l1 => Wp A l1 g (bodyK (I (i + 1)) Q)) (hq : ∀ l g, I ds.length l g → Q .nx l g) : Wp (xForL G A ds) l g Q := by
  have key : ∀ (n i : Nat) l g, n = ds.length - i → i ≤ ds.length → I i l g → Wp (xForL G A (ds.drop i)) l g Q := by
    intro n
    induction n with
    | zero =>
      intro i l g hn hi hI
      have : i = ds.length := by omega
      subst this
      rw [List.drop_length]
      exact wp_forNil (hq l g hI)
    | succ n ih =>
      intro i l g hn hi hI
      have hlt : i < ds.length := by omega
      rw [List.drop_eq_getElem_cons hlt]
      refine wp_forCons ((hs i ds[i] l g (List.getElem?_eq_getElem hlt) hI).imp fun l1 h => ⟨h.1, wp_mono h.2 fun o l2 g2 h => ?_⟩)
      cases o with
      | nx => exact ih (i + 1) l2 g2 (by omega) hlt h
      | ct => exact ih (i + 1) l2 g2 (by omega) hlt h
      | bk => exact h
      | ret v => exact h
  simpa using key ds.length 0 l g (by omega) (Nat.zero_le _) h0
/-- a for over told things, by a state that each turn changes -/
theorem wp_forS {G : G} {σ : Type} (xs : List α) (h : α → PyData) (lf : σ → Lo) (gf : σ → Sg) (I : List α → σ → Prop) (s0 : σ) (h0 : I [] s0) (hs : ∀ pre x post s, xs = pre ++ x :: post → I pre s → Has (G (h x) (lf s)) fun l1 => Wp A l1 (gf s) (bodyK (fun l g => ∃ s', l = lf s' ∧ g = gf s' ∧ I (pre ++ [x]) s') Q)) (hq : ∀ s, I xs s → Q .nx (lf s) (gf s)) : Wp (xForL G A (xs.map h)) (lf s0) (gf s0) Q := by
  have key : ∀ (post pre : List α) (s : σ), xs = pre ++ post → I pre s → Wp (xForL G A (post.map h)) (lf s) (gf s) Q := by
    intro post
    induction post with
    | nil =>
      intro pre s e hI
      rw [List.append_nil] at e
      subst e
      exact wp_forNil (hq s hI)
    | cons x post ih =>
      intro pre s e hI
      refine wp_forCons ((hs pre x post s e hI).imp fun l1 hh => ⟨hh.1, wp_mono hh.2 fun o l2 g2 hk => ?_⟩)
      have nxt : (∃ s', l2 = lf s' ∧ g2 = gf s' ∧ I (pre ++ [x]) s') → Wp (xForL G A (post.map h)) l2 g2 Q := by
        rintro ⟨s', rfl, rfl, hI'⟩
        exact ih (pre ++ [x]) s' (by rw [e, List.append_assoc]; rfl) hI'
      cases o with
      | nx => exact nxt hk
      | ct => exact nxt hk
      | bk => exact hk
      | ret v => exact hk
  exact key xs [] s0 rfl h0
/-- a while by a state and a measure -/
theorem wp_while {σ : Type} (lf : σ → Lo) (gf : σ → Sg) (I : σ → Prop) (mu : σ → Nat) (s0 : σ) (h0 : I s0) (hm : mu s0 < 100000)
    (hs : ∀ s, I s → Wp t (lf s) (gf s) fun p l1 g1 => Br p (Wp A l1 g1 (bodyK (fun l g => ∃ s', l = lf s' ∧ g = gf s' ∧ I s' ∧ mu s' < mu s) Q)) (Q .nx l1 g1)) : Wp (xWhile t A) (lf s0) (gf s0) Q := by
  obtain ⟨o, l', g', e, q⟩ := xWhile_inv (t := t) (x := A) lf gf I mu Q s0 h0 rfl rfl hm (fun s hI => by
    obtain ⟨p, l1, g1, e, q⟩ := hs s hI
    cases p with
    | false => exact .inl ⟨l1, g1, e, q.2 rfl⟩
    | true =>
      obtain ⟨o, l2, g2, e2, q2⟩ := q.1 rfl
      refine .inr ⟨l1, g1, e, ?_⟩
      cases o with
      | nx =>
        obtain ⟨s', rfl, rfl, h1, h2⟩ := q2
        exact .inl ⟨s', .inl e2, h1, h2⟩
      | ct =>
        obtain ⟨s', rfl, rfl, h1, h2⟩ := q2
        exact .inl ⟨s', .inr e2, h1, h2⟩
      | bk => exact .inr (.inl ⟨l2, g2, e2, q2⟩)
      | ret v => exact .inr (.inr ⟨v, l2, g2, e2, q2⟩))
  exact ⟨o, l', g', e, q⟩
end
theorem fok_fn {n : Nat} {x : X} {as : List Vl} {Q : Vl → Sg → Prop} (hl : as ++ List.replicate (n - as.length) .no = l) (h : Wp x l g (retK Q)) : FOk (fnS n x) as g Q := by
  obtain ⟨o, l1, g1, e, q⟩ := h
  unfold FOk fnS
  rw [hl, e]
  cases o with
  | ret v => exact ⟨v, g1, rfl, q⟩
  | nx => exact ⟨_, g1, rfl, q⟩
  | bk => exact q.elim
  | ct => exact q.elim
theorem hasG_nm {Q : Lo → Prop} (hs : SetR l i (.dat d) l1) (q : Q l1) : Has (gNm i d l) Q := ⟨l1, by rw [hs.eq]; rfl, q⟩
theorem hasG_tp {n : Nat} {gs : Gs} {Q : Lo → Prop} (hd : d = .tuple ds) (hn : ds.length = n) (h : Has (gs ds l) Q) : Has (gTp n gs d l) Q := by
  subst hd hn
  obtain ⟨l1, e, q⟩ := h
  exact ⟨l1, by show (if ds.length = ds.length then gs ds l else none) = _; rw [if_pos rfl, e], q⟩
theorem hasG_nil {Q : Lo → Prop} (q : Q l) : Has (gsNil [] l) Q := ⟨l, rfl, q⟩
theorem hasG_cons {G : G} {gs : Gs} {Q : Lo → Prop} (h : Has (G d l) fun l1 => Has (gs ds l1) Q) : Has (gsCons G gs (d :: ds) l) Q := by
  obtain ⟨l1, e1, l2, e2, q⟩ := h
  exact ⟨l2, by show (G d l).bind _ = _; rw [e1]; exact e2, q⟩
/-! ### comprehensions over told things -/
/-- pure in test and element -/
theorem lcw_pure {vs : List Nat} {tg : G} {Q : List PyData → Lo → Sg → Prop} {l0 : Lo} {xs : List α} (h : α → PyData) (q : α → Bool) (f : α → PyData) (hd : ds = xs.map h) (hp : plainAt vs l = true) (hz : xs.length ≤ 100000) (hw : wipeV l vs = l0)
    (he : ∀ x ∈ xs, Has (tg (h x) l0) fun l1 => backV l l1 vs = l ∧ Wp t l1 g fun p l2 g2 => (p = q x ∧ l2 = l1 ∧ g2 = g) ∧ (q x = true → Wp e l1 g fun y l3 g3 => y = f x ∧ l3 = l1 ∧ g3 = g))
    (hq : Q ((xs.filter q).map f) l g) : LcW vs tg t e ds l g Q := by
  subst hd hw
  refine ⟨_, l, g, lcO_of hp (by rw [List.length_map]; exact hz) ?_, hq⟩
  clear hq hz
  induction xs with
  | nil => rfl
  | cons x xs ih =>
    obtain ⟨l1, e1, e2, p, l2, g2, e3, ⟨rfl, rfl, rfl⟩, e4⟩ := he x List.mem_cons_self
    have ih := ih fun y hy => he y (List.mem_cons_of_mem _ hy)
    rw [List.map_cons, lcL_cons, e1, oo_some, e3, ob_some]
    by_cases hx : q x = true
    · obtain ⟨y, l3, g3, e5, rfl, rfl, rfl⟩ := e4 hx
      rw [if_pos hx, e5, ob_some, e2, ih, ob_some, List.filter_cons_of_pos hx, List.map_cons]
    · rw [if_neg hx, e2, ih, List.filter_cons_of_neg hx]
/-- .. without a test -/
theorem lcw_map {vs : List Nat} {tg : G} {Q : List PyData → Lo → Sg → Prop} {l0 : Lo} {xs : List α} (h : α → PyData) (f : α → PyData) (hd : ds = xs.map h) (hp : plainAt vs l = true) (hz : xs.length ≤ 100000) (hw : wipeV l vs = l0)
    (he : ∀ x ∈ xs, Has (tg (h x) l0) fun l1 => backV l l1 vs = l ∧ Wp e l1 g fun y l3 g3 => y = f x ∧ l3 = l1 ∧ g3 = g)
    (hq : Q (xs.map f) l g) : LcW vs tg bYes e ds l g Q :=
  lcw_pure h (fun _ => true) f hd hp hz hw (fun x hx => (he x hx).imp fun l1 hh => ⟨hh.1, hh.2.1, wp_bYes ⟨⟨rfl, rfl, rfl⟩, fun _ => hh.2.2⟩⟩) (by rw [List.filter_eq_self.mpr fun _ _ => rfl]; exact hq)
/-- the store may change -/
theorem lcw_inv {vs : List Nat} {tg : G} {Q : List PyData → Lo → Sg → Prop} {l0 : Lo} {xs : List α} (h : α → PyData) (I : Nat → List PyData → Sg → Prop) (hd : ds = xs.map h) (hp : plainAt vs l = true) (hz : xs.length ≤ 100000) (hw : wipeV l vs = l0) (h0 : I 0 [] g)
    (he : ∀ i x es g, xs[i]? = some x → I i es g → Has (tg (h x) l0) fun l1 => backV l l1 vs = l ∧ Wp e l1 g fun y l3 g3 => l3 = l1 ∧ I (i + 1) (es ++ [y]) g3)
    (hq : ∀ es g, I xs.length es g → Q es l g) : LcW vs tg bYes e ds l g Q := by
  subst hd hw
  have key : ∀ (n i : Nat) (acc : List PyData) (g : Sg), n = xs.length - i → i ≤ xs.length → I i acc g → ∃ es g', lcL vs tg bYes e ((xs.drop i).map h) l g = some (es, l, g') ∧ I xs.length (acc ++ es) g' := by
    intro n
    induction n with
    | zero =>
      intro i acc g hn hi hI
      have : i = xs.length := by omega
      subst this
      rw [List.drop_length]
      exact ⟨[], g, rfl, by rw [List.append_nil]; exact hI⟩
    | succ n ih =>
      intro i acc g hn hi hI
      have hlt : i < xs.length := by omega
      obtain ⟨l1, e1, e2, y, l3, g3, e3, rfl, e4⟩ := he i xs[i] acc g (List.getElem?_eq_getElem hlt) hI
      obtain ⟨es, g', e5, e6⟩ := ih (i + 1) (acc ++ [y]) g3 (by omega) hlt e4
      refine ⟨y :: es, g', ?_, by rw [List.append_assoc] at e6; exact e6⟩
      rw [List.drop_eq_getElem_cons hlt, List.map_cons, lcL_cons, e1, oo_some, bYes_ev, ob_some, if_pos rfl, e3, ob_some, e2, e5, ob_some]
  obtain ⟨es, g', e1, e2⟩ := key xs.length 0 [] g (by omega) (Nat.zero_le _) h0
  exact ⟨es, l, g', lcO_of hp (by rw [List.length_map]; exact hz) (by simpa using e1), hq _ _ (by simpa using e2)⟩
/-- a dict of unlike keys -/
theorem dcw_pure {vs : List Nat} {tg : G} {k : M PyData} {Q : List (Key × PyData) → Lo → Sg → Prop} {l0 : Lo} {xs : List α} (h : α → PyData) (kf : α → Key) (q : α → Bool) (f : α → PyData) (hd : ds = xs.map h) (hp : plainAt vs l = true) (hz : xs.length ≤ 100000) (hw : wipeV l vs = l0)
    (he : ∀ x ∈ xs, Has (tg (h x) l0) fun l1 => backV l l1 vs = l ∧ Wp t l1 g fun p l2 g2 => (p = q x ∧ l2 = l1 ∧ g2 = g) ∧ (q x = true → Wp k l1 g fun y l3 g3 => (keyO y = some (kf x) ∧ l3 = l1 ∧ g3 = g) ∧ Wp e l1 g fun z l4 g4 => z = f x ∧ l4 = l1 ∧ g4 = g))
    (hn : ((xs.filter q).map kf).Nodup) (hq : Q ((xs.filter q).map fun x => (kf x, f x)) l g) : DcW vs tg t k e ds l g Q := by
  subst hd hw
  refine ⟨hp, by rw [List.length_map]; exact hz, _, l, g, ?_, hq⟩
  have e1 := fold_put (kf := kf) (f := f) (acc := []) hn fun _ _ kv hkv => by cases hkv
  rw [List.nil_append] at e1
  rw [← e1]
  clear hq hz e1 hn
  have key : ∀ acc, lcD vs tg t k e (xs.map h) acc l g = some ((xs.filter q).foldl (fun acc d => putG acc (kf d) (f d)) acc, l, g) := by
    induction xs with
    | nil => intro acc; rfl
    | cons x xs ih =>
      intro acc
      obtain ⟨l1, e1, e2, p, l2, g2, e3, ⟨rfl, rfl, rfl⟩, e4⟩ := he x List.mem_cons_self
      have ih := ih fun y hy => he y (List.mem_cons_of_mem _ hy)
      rw [List.map_cons]
      unfold lcD
      simp only [e1, e3]
      cases hx : q x with
      | true =>
        obtain ⟨y, l3, g3, e5, ⟨e6, rfl, rfl⟩, z, l4, g4, e7, rfl, rfl, rfl⟩ := e4 hx
        simp only [e5, e7, e6, e2, ih, List.filter_cons, hx, if_true, List.foldl_cons]
      | false => simp only [e2, ih, List.filter_cons, hx, Bool.false_eq_true, if_false]
  exact key []
end
end Sm

namespace Sm
open PySem PySem.Spec PyProof.Rows L2 RZ SrtO Dz
section
local macro_rules | `(tactic| walk_at "tr") => `(tactic| first | rfl | exact decide_eq_true (by omega) | exact decide_eq_false (by omega) | with_reducible assumption | (simp only [Bool.and_eq_true, Bool.and_eq_false_iff, Bool.or_eq_true, Bool.or_eq_false_iff, Bool.not_eq_true', Bool.not_eq_false', decide_eq_true_eq, decide_eq_false_iff_not]; omega) | (simp; done))
local macro_rules | `(tactic| walk_at "le") => `(tactic| first | omega | (simp only [List.length_cons, List.length_nil, List.length_append, List.length_map]; omega) | decide)
local macro_rules | `(tactic| walk_at "gt") => `(tactic| first | with_reducible assumption | with_reducible rfl | rfl)
local macro_rules | `(tactic| walk_at "op") => `(tactic| first
  | with_reducible exact plusD_ii | with_reducible exact subD_ii | with_reducible exact addI_ii | with_reducible exact ltD_ii | with_reducible exact leD_ii | with_reducible exact gtD_ii | with_reducible exact geD_ii
  | with_reducible exact eqD_ii | with_reducible exact eqD_ss | with_reducible exact eqD_is | with_reducible exact eqD_si | with_reducible exact eqD_bb | with_reducible exact neD_ii | with_reducible exact neD_ss | with_reducible exact neD_is | with_reducible exact neD_si | with_reducible exact neD_bb
  | with_reducible assumption
  | ((with_reducible apply modD_ev); omega) | ((with_reducible apply fdivD_ev); omega) | ((with_reducible apply mulD_ev); (first | exact Or.inl ⟨by omega, by omega⟩ | exact Or.inr ⟨by omega, by omega⟩))
  | ((with_reducible apply ixD_t0); walk_at "gt") | ((with_reducible apply ixD_l0); walk_at "gt") | ((with_reducible apply ixD_t1); walk_at "gt") | ((with_reducible apply ixD_l1); walk_at "gt")
  | ((with_reducible apply ixD_last); walk_at "gt") | ((with_reducible apply ixD_lastL); walk_at "gt")
  | ((with_reducible apply ixD_tN); walk_at "gt") | ((with_reducible apply ixD_lN); walk_at "gt")
  | ((with_reducible apply ixD_t); omega; walk_at "gt") | ((with_reducible apply ixD_l); omega; walk_at "gt")
  | ((with_reducible apply plusD_l); walk_at "le") | ((with_reducible apply plusD_t); walk_at "le"))
local macro_rules | `(tactic| walk_at "at") => `(tactic| first | with_reducible assumption | ((with_reducible apply atI_z); walk_at "gt") | ((with_reducible apply atI_last); walk_at "gt") | ((with_reducible apply atI_N); walk_at "gt") | ((with_reducible apply atI_i); omega; walk_at "gt") | ((with_reducible apply atI_last); walk_at "gt"))
local macro_rules | `(tactic| walk_at "ki") => `(tactic| first | with_reducible exact k_bb | with_reducible exact k_tt | with_reducible exact k_ss | with_reducible exact k_ii | with_reducible exact k_ib | with_reducible exact k_it | with_reducible exact k_is | with_reducible exact k_tb | with_reducible exact k_sb | with_reducible exact k_st | with_reducible exact k_bi | with_reducible exact k_bt | with_reducible exact k_bs | with_reducible exact k_ti | with_reducible exact k_ts | with_reducible exact k_si | with_reducible exact k_nb | with_reducible exact k_nt | with_reducible exact k_ns | with_reducible exact k_ni | with_reducible exact k_lt | with_reducible exact k_lb | with_reducible exact k_ls | with_reducible exact k_li)
local macro_rules | `(tactic| walk_at "cl") => `(tactic| with_reducible assumption)
local macro_rules | `(tactic| walk_at "bi") => `(tactic| first | with_reducible assumption | rfl)
local macro_rules | `(tactic| walk_at "lc") => `(tactic| with_reducible assumption)
local macro_rules | `(tactic| walk_at "ar") => `(tactic| first | with_reducible exact aNil_ev | ((with_reducible apply aCons_ev); (walk_at "ev"); (walk_at "ar")))
local macro_rules | `(tactic| walk_at "va") => `(tactic| first | with_reducible exact vNil_ev | ((with_reducible apply vCons_ev); ((with_reducible apply vE_ev); (walk_at "ev")); (walk_at "va")) | ((with_reducible apply vCons_ev); ((with_reducible apply vR_ev); rfl); (walk_at "va")))
local macro_rules | `(tactic| walk_at "os") => `(tactic| first | with_reducible exact oNone_ev | ((with_reducible apply oSome_ev); (walk_at "ev")))
local macro_rules | `(tactic| walk_at "ls") => `(tactic| first
  | ((with_reducible apply lLst_ev); (walk_at "ar"); (walk_at "le"))
  | ((with_reducible apply lList_ev); (walk_at "ev"); rfl)
  | ((with_reducible apply lListV_ev); rfl)
  | ((with_reducible apply lListRg_ev); (walk_at "ev"); omega)
  | ((with_reducible apply lListRg2_ev); (walk_at "ev"); (walk_at "ev"); omega; omega)
  | ((with_reducible apply lRep_ev); (walk_at "ar"); (walk_at "ev"); omega; (walk_at "le"))
  | ((with_reducible apply lLc_ev); (walk_at "it"); (walk_at "lc"))
  | ((with_reducible apply lKeys_ev); rfl))
local macro_rules | `(tactic| walk_at "it") => `(tactic| first
  | ((with_reducible apply iSq_ev); (walk_at "ev"); rfl)
  | ((with_reducible apply iRg1_ev); (walk_at "ev"); omega)
  | ((with_reducible apply iRg2_ev); (walk_at "ev"); (walk_at "ev"); omega; omega)
  | ((with_reducible apply iEn_ev); (walk_at "ev"))
  | ((with_reducible apply iZp_T); (walk_at "ev"); (walk_at "ev"))
  | ((with_reducible apply iZp_L); (walk_at "ev"); (walk_at "ev")))
local macro_rules | `(tactic| walk_at "dg") => `(tactic| with_reducible assumption)
local macro_rules | `(tactic| walk_at "dl") => `(tactic| with_reducible exact lDnew_ev)
local macro_rules | `(tactic| walk_at "nt") => `(tactic| first | with_reducible exact uNil_ev | ((with_reducible apply uD_ev); (walk_at "ev"); (walk_at "nt")) | ((with_reducible apply uL_ev); (walk_at "ls"); (walk_at "nt")) | ((with_reducible apply uC_ev); (walk_at "dl"); (walk_at "nt")))
local macro_rules | `(tactic| walk_at "ev") => `(tactic| first
  | ((with_reducible apply eVar_ev); rfl) | with_reducible exact eC_ev
  | ((with_reducible apply eOp_ev); (walk_at "ev"); (walk_at "ev"); (walk_at "op"))
  | ((with_reducible apply eUn_ev); (walk_at "ev"); rfl)
  | ((with_reducible apply eCB_ev); (walk_at "ar"); (walk_at "bi"))
  | ((with_reducible apply eTup_ev); (walk_at "ar"); (walk_at "le"))
  | ((with_reducible apply eL_ev); (walk_at "ls"))
  | ((with_reducible apply eCall_ev); (walk_at "va"); (walk_at "cl"))
  | ((with_reducible apply eCallK_ev); (walk_at "va"); (walk_at "va"); (walk_at "cl"))
  | ((with_reducible apply eCallD_ev); (walk_at "va"); (walk_at "cl"))
  | ((with_reducible apply eIsN_ev); (walk_at "ev"))
  | ((with_reducible apply eNotN_ev); (walk_at "ev"))
  | ((with_reducible apply eIsi_ev); (walk_at "ev"); (walk_at "ki"))
  | ((with_reducible apply eNot_ev); (walk_at "ev"); rfl)
  | ((with_reducible apply eChain_B); (walk_at "ev"); (walk_at "ev"); (walk_at "op"); (walk_at "ev"); (walk_at "op"))
  | ((with_reducible apply eSl_ev); (walk_at "ev"); (walk_at "os"); (walk_at "os"); rfl)
  | ((with_reducible apply eIxV_ev); rfl; (walk_at "ev"); rfl; (walk_at "at"))
  | ((with_reducible apply eLenV_ev); rfl)
  | ((with_reducible apply eTupleV_ev); rfl)
  | ((with_reducible apply eSlV_ev); rfl; (walk_at "os"); (walk_at "os"); rfl)
  | ((with_reducible apply eInV_ev); (walk_at "ev"); rfl; (walk_at "op"))
  | ((with_reducible apply eDget_ev); rfl; (walk_at "ev"); rfl; with_reducible exact keyO_i; (walk_at "dg"))
  | ((with_reducible apply eDin_ev); (walk_at "ev"); rfl; with_reducible exact keyO_i)
  | ((with_reducible apply eDnot_ev); (walk_at "ev"); rfl; with_reducible exact keyO_i)
  | ((with_reducible apply eLenD_ev); rfl)
  | ((with_reducible apply eIf_D); (walk_at "be"); (first | ((with_reducible apply cd_T); (walk_at "tr"); (walk_at "ev")) | ((with_reducible apply cd_F); (walk_at "tr"); (walk_at "ev"))))
  | ((with_reducible apply eAnd_F); (walk_at "ev"); rfl)
  | ((with_reducible apply eAnd_T); (walk_at "ev"); rfl; (walk_at "ev"))
  | ((with_reducible apply eOr_T); (walk_at "ev"); rfl)
  | ((with_reducible apply eOr_F); (walk_at "ev"); rfl; (walk_at "ev"))
  | ((with_reducible apply eAnd_B); (walk_at "ev"); (intro _; walk_at "ev"))
  | ((with_reducible apply eOr_B); (walk_at "ev"); (intro _; walk_at "ev")))
local macro_rules | `(tactic| walk_at "be") => `(tactic| first
  | with_reducible exact bYes_ev
  | ((with_reducible apply bTest_ev); (walk_at "ev"))
  | ((with_reducible apply bTru_ev); (walk_at "ev"); rfl)
  | ((with_reducible apply bTruV_ev); rfl)
  | ((with_reducible apply bTruD_ev); rfl)
  | ((with_reducible apply bNot_ev); (walk_at "be"))
  | ((with_reducible apply bIf_D); (walk_at "be"); (first | ((with_reducible apply cd_T); (walk_at "tr"); (walk_at "be")) | ((with_reducible apply cd_F); (walk_at "tr"); (walk_at "be"))))
  | ((with_reducible apply bAnd_D); (walk_at "be"); (first | ((with_reducible apply cd_T); (walk_at "tr"); (walk_at "be")) | ((with_reducible apply cd_F); (walk_at "tr"); rfl)))
  | ((with_reducible apply bOr_D); (walk_at "be"); (first | ((with_reducible apply cd_T); (walk_at "tr"); rfl) | ((with_reducible apply cd_F); (walk_at "tr"); (walk_at "be"))))
  | ((with_reducible apply bAnd_B); (walk_at "be"); (intro _; walk_at "be"))
  | ((with_reducible apply bOr_B); (walk_at "be"); (intro _; walk_at "be")))
local macro_rules | `(tactic| walk_at "ex") => `(tactic| first
  | with_reducible exact xNext_ev | with_reducible exact xBreak_ev | with_reducible exact xCont_ev
  | ((with_reducible apply xAsg_ev); (walk_at "ev"))
  | ((with_reducible apply xAsgG_ev); (walk_at "ev"); rfl)
  | ((with_reducible apply xAsgL_ev); (walk_at "ls"))
  | ((with_reducible apply xNewL_ev); (walk_at "ls"))
  | ((with_reducible apply xAug_ev); rfl; (walk_at "ev"); (walk_at "op"))
  | ((with_reducible apply xDrop_ev); (walk_at "ev"))
  | ((with_reducible apply xRet_ev); (walk_at "ev"))
  | ((with_reducible apply xApp_ev); rfl; (walk_at "ev"); rfl; (walk_at "le"))
  | ((with_reducible apply xSetI_ev); (walk_at "ev"); rfl; (walk_at "ev"); rfl; exact ixN_in (by walk_at "le"))
  | ((with_reducible apply xPar_ev); (walk_at "ev"); (walk_at "ev"))
  | ((with_reducible apply xParDL_ev); (walk_at "ev"); (walk_at "ls"))
  | ((with_reducible apply xParLD_ev); (walk_at "ls"); (walk_at "ev"))
  | ((with_reducible apply xParLL_ev); (walk_at "ls"); (walk_at "ls"))
  | ((with_reducible apply xPar3_ev); (walk_at "ar"))
  | ((with_reducible apply xDput_ev); (walk_at "ev"); rfl; (walk_at "ev"); rfl; with_reducible exact keyO_i; (walk_at "le"))
  | ((with_reducible apply xDpop_ev); rfl; (walk_at "ev"); rfl; with_reducible exact keyO_i; (walk_at "dg"))
  | ((with_reducible apply xAsgC_ev); (walk_at "dl"))
  | ((with_reducible apply xTup2_ev); (walk_at "nt"))
  | ((with_reducible apply xFrz_O); rfl; (walk_at "ex"))
  | ((with_reducible apply xFrz_D); rfl; (walk_at "ex"))
  | ((with_reducible apply xIf_D); (walk_at "be"); (first | ((with_reducible apply cd_T); (walk_at "tr"); (walk_at "ex")) | ((with_reducible apply cd_F); (walk_at "tr"); (walk_at "ex"))))
  | ((with_reducible apply xSeq_ev); (walk_at "ex"); (walk_at "ex")))
local macro_rules | `(tactic| walk_at "st") => `(tactic| ((first | refine rt_seq (by walk_at "ex") ?_ | refine seq_step (by walk_at "ex") ?_); try simp only [List.set_cons_succ, List.set_cons_zero]))
local macro_rules | `(tactic| walk_at "rt") => `(tactic| refine rt_is (rt_ret (by walk_at "ev")) ?_ ?_)
local macro_rules | `(tactic| walk_at "yes") => `(tactic| (first | refine rt_now (rt_T (by walk_at "be") (by walk_at "tr") ?_) | refine rt_T (by walk_at "be") (by walk_at "tr") ?_))
local macro_rules | `(tactic| walk_at "noo") => `(tactic| (first | refine rt_now (rt_F (by walk_at "be") (by walk_at "tr") ?_) | refine rt_F (by walk_at "be") (by walk_at "tr") ?_))

/-! ### draws -/
/-- the greatest of the script's numbers, by size -/
def scM (ns : List Int) : Int := maxI (ns.map (fun i => if i < 0 then -i else i) ++ [0])
def twn (ns : List Int) : Nat → List Int
  | 0 => []
  | n + 1 => scM ns / 65536 ^ (n + 1) :: List.replicate (n + 1) 0
def nI (ns : List Int) : List PyData := ns.map .int
/-- the store with the town ahead -/
abbrev tw (ns : List Int) (n : Nat) (g : Sg) : Sg := .lst (nI (twn ns n)) :: g
abbrev scr (ns : List Int) : Vl := .dat (.list (nI ns))
def drN (ns : List Int) (n : Nat) : Int :=
  let c : Int := if ns.isEmpty then 0 else (ns[(n + 2) % ns.length]?).getD 0
  let d : Int := (scM ns / 65536 ^ n) % 65536
  let x : Int := (c + 40503 * d + 104729 * ((n + 2 : Nat) : Int)) % 4294967291
  let y : Int := x * x % 4294967279 * 48271 % 4294967291
  let z : Int := y * y % 4294967279 * 69621 % 4294967291
  y / 64 * 67108864 + z / 64
def m_l_draw : X :=
  (xSeq (xIf (bNot (bTruV 1))
    (xApp 1 (eCB maxD (aCons (eOp plusD (eL (lLc [3] (iSq (eVar 0)) (gNm 3) bYes (eCB absD (aCons (eVar 3) aNil)))) (eL (lLst (aCons (eC (.int 0)) aNil)))) aNil)))
    xNext)
  (xSeq (xApp 1 (eC (.int 0)))
  (xSeq (xAsg 4 (eLenV 1))
  (xSeq (xAsg 3 (eIf (bTru (eVar 0)) (eOp ixD (eVar 0) (eOp modD (eVar 4) (eCB lenD (aCons (eVar 0) aNil)))) (eC (.int 0))))
  (xSeq (xAsg 5 (eOp modD (eIxV 1 (eC (.int 0))) (eC (.int 65536))))
  (xSeq (xSetI 1 (eC (.int 0)) (eOp fdivD (eIxV 1 (eC (.int 0))) (eC (.int 65536))))
  (xSeq (xAsg 6 (eOp modD (eOp plusD (eOp plusD (eVar 3) (eOp mulD (eC (.int 40503)) (eVar 5))) (eOp mulD (eC (.int 104729)) (eVar 4))) (eC (.int 4294967291))))
  (xSeq (xAsg 6 (eOp modD (eOp mulD (eOp modD (eOp mulD (eVar 6) (eVar 6)) (eC (.int 4294967279))) (eC (.int 48271))) (eC (.int 4294967291))))
  (xSeq (xAsg 7 (eOp modD (eOp mulD (eOp modD (eOp mulD (eVar 6) (eVar 6)) (eC (.int 4294967279))) (eC (.int 69621))) (eC (.int 4294967291))))
  (xRet (eOp modD (eOp plusD (eOp mulD (eOp fdivD (eVar 6) (eC (.int 64))) (eC (.int 67108864))) (eOp fdivD (eVar 7) (eC (.int 64)))) (eVar 2))))))))))))
def f_l_draw : FS := fnS 8 (m_l_draw )

theorem nI_len (ns : List Int) : (nI ns).length = ns.length := by simp [nI]
theorem nI_get (ns : List Int) (k : Nat) : (nI ns)[k]? = (ns[k]?).map .int := by simp [nI]
theorem nI_at {ns : List Int} {k : Nat} {x : Int} (h : ns[k]? = some x) : (nI ns)[k]? = some (.int x) := by rw [nI_get, h]; rfl
set_option maxHeartbeats 2000000 in
theorem draw_eq (ns : List Int) (n : Nat) (m : Int) (g : Sg) (hn : n < 90000) (hm : 0 < m) (hz : ns.length ≤ 63) : f_l_draw [scr ns, .ref 0, .dat (.int m)] (tw ns n g) = some (.dat (.int (drN ns n % m)), tw ns (n + 1) g) := by
  unfold f_l_draw m_l_draw
  refine fn_ret (l := [scr ns, .ref 0, .dat (.int m), .no, .no, .no, .no, .no]) rfl ?_
  have ab : ∀ g, lcO [3] (gNm 3) bYes (eCB absD (aCons (eVar 3) aNil)) (nI ns) [scr ns, .ref 0, .dat (.int m), .no, .no, .no, .no, .no] g = some (nI (ns.map fun i => if i < 0 then -i else i), [scr ns, .ref 0, .dat (.int m), .no, .no, .no, .no, .no], g) := fun g => by
    unfold nI
    rw [List.map_map]
    exact lcO_map rfl (by omega) fun x _ => by walk_at "ev"
  refine rt_seq (l1 := [scr ns, .ref 0, .dat (.int m), .no, .no, .no, .no, .no]) (g1 := .lst (nI (scM ns / 65536 ^ n :: List.replicate n 0)) :: g) ?_ ?_
  · cases n with
    | zero =>
      have h3 : maxD [.list (nI (ns.map fun i => if i < 0 then -i else i) ++ [.int 0])] = some (.int (scM ns)) := by
        have : nI (ns.map fun i => if i < 0 then -i else i) ++ [.int 0] = ((ns.map fun i => if i < 0 then -i else i) ++ [0]).map PyData.int := by simp [nI]
        rw [this]
        exact maxD_i (by simp)
      have h4 : scM ns / 65536 ^ 0 = scM ns := by simp
      have h5 : (nI (ns.map fun i => if i < 0 then -i else i)).length = ns.length := by simp [nI]
      have h6 : (nI (twn ns 0)).length = 0 := rfl
      have ab := ab (tw ns 0 g)
      rw [h4]
      refine Eq.trans (by walk_at "ex") ?_
      rfl
    | succ n =>
      refine Eq.trans (by walk_at "ex") ?_
      rfl
  clear ab
  have hlen : (nI (scM ns / 65536 ^ n :: List.replicate n 0)).length = n + 1 := by simp [nI]
  have happ : nI (scM ns / 65536 ^ n :: List.replicate n 0) ++ [PyData.int 0] = nI (scM ns / 65536 ^ n :: List.replicate (n + 1) 0) := by simp [nI, List.replicate_succ']
  have hlen2 : (nI (scM ns / 65536 ^ n :: List.replicate (n + 1) 0)).length = n + 2 := by simp [nI]
  walk_at "st"
  show Rt _ [scr ns, .ref 0, .dat (.int m), .no, .no, .no, .no, .no] (.lst (nI (scM ns / 65536 ^ n :: List.replicate n 0) ++ [PyData.int 0]) :: g) _ _
  rw [happ]
  walk_at "st"
  rw [hlen2]
  refine rt_seq (l1 := [scr ns, .ref 0, .dat (.int m), .dat (.int (if ns.isEmpty then 0 else (ns[(n + 2) % ns.length]?).getD 0)), .dat (.int ((n + 2 : Nat) : Int)), .no, .no, .no]) (g1 := .lst (nI (scM ns / 65536 ^ n :: List.replicate (n + 1) 0)) :: g) ?_ ?_
  · cases ns with
    | nil =>
      refine Eq.trans (by walk_at "ex") ?_
      rfl
    | cons x r =>
      have hm2 : (n + 2) % (x :: r).length < (x :: r).length := Nat.mod_lt _ (by simp)
      have e2 : (nI (x :: r))[(n + 2) % (x :: r).length]? = some (.int (((x :: r)[(n + 2) % (x :: r).length]?).getD 0)) := by
        rw [nI_get, List.getElem?_eq_getElem hm2]; rfl
      have e1 : ixD (.list (nI (x :: r))) (.int (((n + 2 : Nat) : Int) % (((nI (x :: r)).length : Nat) : Int))) = some (.int (((x :: r)[(n + 2) % (x :: r).length]?).getD 0)) := by
        rw [nI_len, ← Int.natCast_emod]
        exact ixD_lN e2
      have e3 : 0 < (nI (x :: r)).length := by simp [nI]
      refine Eq.trans (by walk_at "ex") ?_
      rfl
  generalize hc : (if ns.isEmpty then 0 else (ns[(n + 2) % ns.length]?).getD 0) = c
  have ht : tw ns (n + 1) g = .lst (nI (scM ns / 65536 ^ n / 65536 :: List.replicate (n + 1) 0)) :: g := by
    show Ob.lst (nI (scM ns / 65536 ^ (n + 1) :: _)) :: g = _
    rw [Int.pow_succ, Int.ediv_ediv_of_nonneg (Int.le_of_lt (Int.pow_pos (by decide)))]
  rw [ht]
  clear ht hlen happ
  generalize ha : scM ns / 65536 ^ n = a at *
  generalize hv : drN ns n % m = vv
  walk_at "st"
  walk_at "st"
  show Rt _ _ (.lst (nI (a / 65536 :: List.replicate (n + 1) 0)) :: g) _ _
  walk_at "st"
  have hx1 : 0 ≤ (c + 40503 * (a % 65536) + 104729 * ((n + 2 : Nat) : Int)) % 4294967291 := Int.emod_nonneg _ (by decide)
  have hx2 : (c + 40503 * (a % 65536) + 104729 * ((n + 2 : Nat) : Int)) % 4294967291 < 4294967291 := Int.emod_lt_of_pos _ (by decide)
  generalize hx : (c + 40503 * (a % 65536) + 104729 * ((n + 2 : Nat) : Int)) % 4294967291 = x at *
  have y1 : 0 ≤ x * x % 4294967279 := Int.emod_nonneg _ (by decide)
  have y2 : x * x % 4294967279 < 4294967279 := Int.emod_lt_of_pos _ (by decide)
  walk_at "st"
  have hy1 : 0 ≤ x * x % 4294967279 * 48271 % 4294967291 := Int.emod_nonneg _ (by decide)
  have hy2 : x * x % 4294967279 * 48271 % 4294967291 < 4294967291 := Int.emod_lt_of_pos _ (by decide)
  generalize hy : x * x % 4294967279 * 48271 % 4294967291 = y at *
  have z1 : 0 ≤ y * y % 4294967279 := Int.emod_nonneg _ (by decide)
  have z2 : y * y % 4294967279 < 4294967279 := Int.emod_lt_of_pos _ (by decide)
  walk_at "st"
  generalize hz2 : y * y % 4294967279 * 69621 % 4294967291 = z at *
  walk_at "rt"
  · rw [← hv]
    unfold drN
    simp only [hc, ha, hx, hy, hz2]
  · rfl
/-- a draw as a number -/
theorem drN_nat (ns : List Int) (n : Nat) {m : Nat} (h : 0 < m) : ∃ k : Nat, drN ns n % (m : Int) = k ∧ k < m := by
  have h1 := Int.emod_nonneg (drN ns n) (show (m : Int) ≠ 0 by omega)
  have h2 := Int.emod_lt_of_pos (drN ns n) (show (0 : Int) < m by omega)
  exact ⟨(drN ns n % (m : Int)).toNat, by omega, by omega⟩
theorem drN_int (ns : List Int) (n : Nat) {m : Int} (h : 0 < m) : 0 ≤ drN ns n % m ∧ drN ns n % m < m := ⟨Int.emod_nonneg _ (by omega), Int.emod_lt_of_pos _ h⟩

end
section
local macro_rules | `(tactic| walk_at "tr") => `(tactic| first | rfl | exact decide_eq_true (by omega) | exact decide_eq_false (by omega) | with_reducible assumption | (simp only [Bool.and_eq_true, Bool.and_eq_false_iff, Bool.or_eq_true, Bool.or_eq_false_iff, Bool.not_eq_true', Bool.not_eq_false', decide_eq_true_eq, decide_eq_false_iff_not]; omega) | (simp; done))
local macro_rules | `(tactic| walk_at "le") => `(tactic| first | omega | (simp only [List.length_cons, List.length_nil, List.length_append, List.length_map]; omega) | decide)
local macro_rules | `(tactic| walk_at "gt") => `(tactic| first | with_reducible assumption | with_reducible rfl | rfl)
local macro_rules | `(tactic| walk_at "op") => `(tactic| first
  | with_reducible exact plusD_ii | with_reducible exact subD_ii | with_reducible exact addI_ii | with_reducible exact ltD_ii | with_reducible exact leD_ii | with_reducible exact gtD_ii | with_reducible exact geD_ii
  | with_reducible exact eqD_ii | with_reducible exact eqD_ss | with_reducible exact eqD_is | with_reducible exact eqD_si | with_reducible exact eqD_bb | with_reducible exact neD_ii | with_reducible exact neD_ss | with_reducible exact neD_is | with_reducible exact neD_si | with_reducible exact neD_bb
  | with_reducible assumption
  | ((with_reducible apply modD_ev); omega) | ((with_reducible apply fdivD_ev); omega) | ((with_reducible apply mulD_ev); (first | exact Or.inl ⟨by omega, by omega⟩ | exact Or.inr ⟨by omega, by omega⟩))
  | ((with_reducible apply ixD_t0); walk_at "gt") | ((with_reducible apply ixD_l0); walk_at "gt") | ((with_reducible apply ixD_t1); walk_at "gt") | ((with_reducible apply ixD_l1); walk_at "gt")
  | ((with_reducible apply ixD_last); walk_at "gt") | ((with_reducible apply ixD_lastL); walk_at "gt")
  | ((with_reducible apply ixD_tN); walk_at "gt") | ((with_reducible apply ixD_lN); walk_at "gt")
  | ((with_reducible apply ixD_t); omega; walk_at "gt") | ((with_reducible apply ixD_l); omega; walk_at "gt")
  | ((with_reducible apply plusD_l); walk_at "le") | ((with_reducible apply plusD_t); walk_at "le"))
local macro_rules | `(tactic| walk_at "at") => `(tactic| first | with_reducible assumption | ((with_reducible apply atI_z); walk_at "gt") | ((with_reducible apply atI_last); walk_at "gt") | ((with_reducible apply atI_N); walk_at "gt") | ((with_reducible apply atI_i); omega; walk_at "gt") | ((with_reducible apply atI_last); walk_at "gt"))
local macro_rules | `(tactic| walk_at "ki") => `(tactic| first | with_reducible exact k_bb | with_reducible exact k_tt | with_reducible exact k_ss | with_reducible exact k_ii | with_reducible exact k_ib | with_reducible exact k_it | with_reducible exact k_is | with_reducible exact k_tb | with_reducible exact k_sb | with_reducible exact k_st | with_reducible exact k_bi | with_reducible exact k_bt | with_reducible exact k_bs | with_reducible exact k_ti | with_reducible exact k_ts | with_reducible exact k_si | with_reducible exact k_nb | with_reducible exact k_nt | with_reducible exact k_ns | with_reducible exact k_ni | with_reducible exact k_lt | with_reducible exact k_lb | with_reducible exact k_ls | with_reducible exact k_li)
local macro_rules | `(tactic| walk_at "cl") => `(tactic| with_reducible assumption)
local macro_rules | `(tactic| walk_at "bi") => `(tactic| first | with_reducible assumption | rfl)
local macro_rules | `(tactic| walk_at "lc") => `(tactic| with_reducible assumption)
local macro_rules | `(tactic| walk_at "ar") => `(tactic| first | with_reducible exact aNil_ev | ((with_reducible apply aCons_ev); (walk_at "ev"); (walk_at "ar")))
local macro_rules | `(tactic| walk_at "va") => `(tactic| first | with_reducible exact vNil_ev | ((with_reducible apply vCons_ev); ((with_reducible apply vE_ev); (walk_at "ev")); (walk_at "va")) | ((with_reducible apply vCons_ev); ((with_reducible apply vR_ev); rfl); (walk_at "va")))
local macro_rules | `(tactic| walk_at "os") => `(tactic| first | with_reducible exact oNone_ev | ((with_reducible apply oSome_ev); (walk_at "ev")))
local macro_rules | `(tactic| walk_at "ls") => `(tactic| first
  | ((with_reducible apply lLst_ev); (walk_at "ar"); (walk_at "le"))
  | ((with_reducible apply lList_ev); (walk_at "ev"); rfl)
  | ((with_reducible apply lListV_ev); rfl)
  | ((with_reducible apply lListRg_ev); (walk_at "ev"); omega)
  | ((with_reducible apply lListRg2_ev); (walk_at "ev"); (walk_at "ev"); omega; omega)
  | ((with_reducible apply lRep_ev); (walk_at "ar"); (walk_at "ev"); omega; (walk_at "le"))
  | ((with_reducible apply lLc_ev); (walk_at "it"); (walk_at "lc"))
  | ((with_reducible apply lKeys_ev); rfl))
local macro_rules | `(tactic| walk_at "it") => `(tactic| first
  | ((with_reducible apply iSq_ev); (walk_at "ev"); rfl)
  | ((with_reducible apply iRg1_ev); (walk_at "ev"); omega)
  | ((with_reducible apply iRg2_ev); (walk_at "ev"); (walk_at "ev"); omega; omega)
  | ((with_reducible apply iEn_ev); (walk_at "ev"))
  | ((with_reducible apply iZp_T); (walk_at "ev"); (walk_at "ev"))
  | ((with_reducible apply iZp_L); (walk_at "ev"); (walk_at "ev")))
local macro_rules | `(tactic| walk_at "dg") => `(tactic| with_reducible assumption)
local macro_rules | `(tactic| walk_at "dl") => `(tactic| with_reducible exact lDnew_ev)
local macro_rules | `(tactic| walk_at "nt") => `(tactic| first | with_reducible exact uNil_ev | ((with_reducible apply uD_ev); (walk_at "ev"); (walk_at "nt")) | ((with_reducible apply uL_ev); (walk_at "ls"); (walk_at "nt")) | ((with_reducible apply uC_ev); (walk_at "dl"); (walk_at "nt")))
local macro_rules | `(tactic| walk_at "ev") => `(tactic| first
  | ((with_reducible apply eVar_ev); rfl) | with_reducible exact eC_ev
  | ((with_reducible apply eOp_ev); (walk_at "ev"); (walk_at "ev"); (walk_at "op"))
  | ((with_reducible apply eUn_ev); (walk_at "ev"); rfl)
  | ((with_reducible apply eCB_ev); (walk_at "ar"); (walk_at "bi"))
  | ((with_reducible apply eTup_ev); (walk_at "ar"); (walk_at "le"))
  | ((with_reducible apply eL_ev); (walk_at "ls"))
  | ((with_reducible apply eCall_ev); (walk_at "va"); (walk_at "cl"))
  | ((with_reducible apply eCallK_ev); (walk_at "va"); (walk_at "va"); (walk_at "cl"))
  | ((with_reducible apply eCallD_ev); (walk_at "va"); (walk_at "cl"))
  | ((with_reducible apply eIsN_ev); (walk_at "ev"))
  | ((with_reducible apply eNotN_ev); (walk_at "ev"))
  | ((with_reducible apply eIsi_ev); (walk_at "ev"); (walk_at "ki"))
  | ((with_reducible apply eNot_ev); (walk_at "ev"); rfl)
  | ((with_reducible apply eChain_B); (walk_at "ev"); (walk_at "ev"); (walk_at "op"); (walk_at "ev"); (walk_at "op"))
  | ((with_reducible apply eSl_ev); (walk_at "ev"); (walk_at "os"); (walk_at "os"); rfl)
  | ((with_reducible apply eIxV_ev); rfl; (walk_at "ev"); rfl; (walk_at "at"))
  | ((with_reducible apply eLenV_ev); rfl)
  | ((with_reducible apply eTupleV_ev); rfl)
  | ((with_reducible apply eSlV_ev); rfl; (walk_at "os"); (walk_at "os"); rfl)
  | ((with_reducible apply eInV_ev); (walk_at "ev"); rfl; (walk_at "op"))
  | ((with_reducible apply eDget_ev); rfl; (walk_at "ev"); rfl; with_reducible exact keyO_i; (walk_at "dg"))
  | ((with_reducible apply eDin_ev); (walk_at "ev"); rfl; with_reducible exact keyO_i)
  | ((with_reducible apply eDnot_ev); (walk_at "ev"); rfl; with_reducible exact keyO_i)
  | ((with_reducible apply eLenD_ev); rfl)
  | ((with_reducible apply eIf_D); (walk_at "be"); (first | ((with_reducible apply cd_T); (walk_at "tr"); (walk_at "ev")) | ((with_reducible apply cd_F); (walk_at "tr"); (walk_at "ev"))))
  | ((with_reducible apply eAnd_F); (walk_at "ev"); rfl)
  | ((with_reducible apply eAnd_T); (walk_at "ev"); rfl; (walk_at "ev"))
  | ((with_reducible apply eOr_T); (walk_at "ev"); rfl)
  | ((with_reducible apply eOr_F); (walk_at "ev"); rfl; (walk_at "ev"))
  | ((with_reducible apply eAnd_B); (walk_at "ev"); (intro _; walk_at "ev"))
  | ((with_reducible apply eOr_B); (walk_at "ev"); (intro _; walk_at "ev")))
local macro_rules | `(tactic| walk_at "be") => `(tactic| first
  | with_reducible exact bYes_ev
  | ((with_reducible apply bTest_ev); (walk_at "ev"))
  | ((with_reducible apply bTru_ev); (walk_at "ev"); rfl)
  | ((with_reducible apply bTruV_ev); rfl)
  | ((with_reducible apply bTruD_ev); rfl)
  | ((with_reducible apply bNot_ev); (walk_at "be"))
  | ((with_reducible apply bIf_D); (walk_at "be"); (first | ((with_reducible apply cd_T); (walk_at "tr"); (walk_at "be")) | ((with_reducible apply cd_F); (walk_at "tr"); (walk_at "be"))))
  | ((with_reducible apply bAnd_D); (walk_at "be"); (first | ((with_reducible apply cd_T); (walk_at "tr"); (walk_at "be")) | ((with_reducible apply cd_F); (walk_at "tr"); rfl)))
  | ((with_reducible apply bOr_D); (walk_at "be"); (first | ((with_reducible apply cd_T); (walk_at "tr"); rfl) | ((with_reducible apply cd_F); (walk_at "tr"); (walk_at "be"))))
  | ((with_reducible apply bAnd_B); (walk_at "be"); (intro _; walk_at "be"))
  | ((with_reducible apply bOr_B); (walk_at "be"); (intro _; walk_at "be")))
local macro_rules | `(tactic| walk_at "ex") => `(tactic| first
  | with_reducible exact xNext_ev | with_reducible exact xBreak_ev | with_reducible exact xCont_ev
  | ((with_reducible apply xAsg_ev); (walk_at "ev"))
  | ((with_reducible apply xAsgG_ev); (walk_at "ev"); rfl)
  | ((with_reducible apply xAsgL_ev); (walk_at "ls"))
  | ((with_reducible apply xNewL_ev); (walk_at "ls"))
  | ((with_reducible apply xAug_ev); rfl; (walk_at "ev"); (walk_at "op"))
  | ((with_reducible apply xDrop_ev); (walk_at "ev"))
  | ((with_reducible apply xRet_ev); (walk_at "ev"))
  | ((with_reducible apply xApp_ev); rfl; (walk_at "ev"); rfl; (walk_at "le"))
  | ((with_reducible apply xSetI_ev); (walk_at "ev"); rfl; (walk_at "ev"); rfl; exact ixN_in (by walk_at "le"))
  | ((with_reducible apply xPar_ev); (walk_at "ev"); (walk_at "ev"))
  | ((with_reducible apply xParDL_ev); (walk_at "ev"); (walk_at "ls"))
  | ((with_reducible apply xParLD_ev); (walk_at "ls"); (walk_at "ev"))
  | ((with_reducible apply xParLL_ev); (walk_at "ls"); (walk_at "ls"))
  | ((with_reducible apply xPar3_ev); (walk_at "ar"))
  | ((with_reducible apply xDput_ev); (walk_at "ev"); rfl; (walk_at "ev"); rfl; with_reducible exact keyO_i; (walk_at "le"))
  | ((with_reducible apply xDpop_ev); rfl; (walk_at "ev"); rfl; with_reducible exact keyO_i; (walk_at "dg"))
  | ((with_reducible apply xAsgC_ev); (walk_at "dl"))
  | ((with_reducible apply xTup2_ev); (walk_at "nt"))
  | ((with_reducible apply xFrz_O); rfl; (walk_at "ex"))
  | ((with_reducible apply xFrz_D); rfl; (walk_at "ex"))
  | ((with_reducible apply xIf_D); (walk_at "be"); (first | ((with_reducible apply cd_T); (walk_at "tr"); (walk_at "ex")) | ((with_reducible apply cd_F); (walk_at "tr"); (walk_at "ex"))))
  | ((with_reducible apply xSeq_ev); (walk_at "ex"); (walk_at "ex")))
local macro_rules | `(tactic| walk_at "st") => `(tactic| ((first | refine rt_seq (by walk_at "ex") ?_ | refine seq_step (by walk_at "ex") ?_); try simp only [List.set_cons_succ, List.set_cons_zero]))
local macro_rules | `(tactic| walk_at "rt") => `(tactic| refine rt_is (rt_ret (by walk_at "ev")) ?_ ?_)
local macro_rules | `(tactic| walk_at "yes") => `(tactic| (first | refine rt_now (rt_T (by walk_at "be") (by walk_at "tr") ?_) | refine rt_T (by walk_at "be") (by walk_at "tr") ?_))
local macro_rules | `(tactic| walk_at "noo") => `(tactic| (first | refine rt_now (rt_F (by walk_at "be") (by walk_at "tr") ?_) | refine rt_F (by walk_at "be") (by walk_at "tr") ?_))

/-! ### games as plain data -/
inductive Pl where
  | fin (w : Int)
  | mv (s : Int) (ms : List Nat)
def nD (ms : List Nat) : List PyData := ms.map fun m => PyData.int (m : Nat)
def Pl.d : Pl → PyData
  | .fin w => .tuple [.str "end", .int w]
  | .mv s ms => .tuple [.int s, .tuple (nD ms)]
def gD (g : List Pl) : PyData := .tuple (g.map Pl.d)
def PlOk (n : Nat) : Pl → Prop
  | .fin w => -99 ≤ w ∧ w ≤ 99
  | .mv s ms => (s = 0 ∨ s = 1) ∧ ms ≠ [] ∧ ms.Nodup ∧ (∀ m ∈ ms, m < n) ∧ ms.length ≤ 3
def Pl.moves : Pl → List Nat
  | .fin _ => []
  | .mv _ ms => ms
structure Good (g : List Pl) : Prop where
  ok : ∀ (p : Nat) (x : Pl), g[p]? = some x → PlOk g.length x
  len : g.length ≤ 30
structure Straight (g : List Pl) : Prop where
  ex : ∃ rk : Nat → Nat, (∀ (p : Nat) (x : Pl) (m : Nat), g[p]? = some x → m ∈ x.moves → rk m < rk p) ∧ ∀ p, p < g.length → rk p < g.length
theorem PlOk.mono {n m : Nat} (h : n ≤ m) : ∀ {x : Pl}, PlOk n x → PlOk m x
  | .fin _, q => q
  | .mv _ _, q => ⟨q.1, q.2.1, q.2.2.1, fun k hk => Nat.lt_of_lt_of_le (q.2.2.2.1 k hk) h, q.2.2.2.2⟩
/-- rows that lead down, each place given another number -/
def ren (es : List Nat) : Pl → Pl
  | .fin w => .fin w
  | .mv s ms => .mv s (ms.map fun m => es.getD m 0)
theorem rng_nat (n : Nat) : rng 0 n = nD (List.range n) := by
  unfold rng nD
  apply List.map_congr_left
  intro i _
  simp
theorem nD_perm {es : List PyData} {n : Nat} (h : es.Perm (nD (List.range n))) : ∃ ns : List Nat, es = nD ns ∧ ns.Perm (List.range n) := by
  have key : ∀ (a b : List PyData), a.Perm b → ∀ ns : List Nat, b = nD ns → ∃ ms : List Nat, a = nD ms ∧ ms.Perm ns := by
    intro a b hp
    induction hp with
    | nil => intro ns e; cases ns with
      | nil => exact ⟨[], rfl, List.Perm.refl _⟩
      | cons x r => simp [nD] at e
    | @cons x l1 l2 _ ih => intro ns e; cases ns with
      | nil => simp [nD] at e
      | cons y r =>
        have e1 : x = PyData.int (y : Nat) ∧ l2 = nD r := by simpa [nD] using e
        obtain ⟨ms, e2, p2⟩ := ih r e1.2
        exact ⟨y :: ms, by rw [e1.1, e2]; rfl, p2.cons y⟩
    | swap x y l2 => intro ns e; match ns, e with
      | [], e => simp [nD] at e
      | [_], e => simp [nD] at e
      | u :: v :: r, e =>
        have e1 : x = PyData.int (u : Nat) ∧ y = PyData.int (v : Nat) ∧ l2 = nD r := by simpa [nD] using e
        exact ⟨v :: u :: r, by rw [e1.1, e1.2.1, e1.2.2]; rfl, List.Perm.swap u v r⟩
    | trans _ _ ih1 ih2 => intro ns e; obtain ⟨ms, e1, p1⟩ := ih2 ns e; obtain ⟨ks, e2, p2⟩ := ih1 ms e1; exact ⟨ks, e2, p2.trans p1⟩
  exact key _ _ h _ rfl
theorem nD_get {ns : List Nat} {i : Nat} {m : Nat} (h : ns[i]? = some m) : (nD ns)[i]? = some (PyData.int (m : Nat)) := by
  unfold nD
  rw [List.getElem?_map, h]
  rfl
theorem nD_len (ns : List Nat) : (nD ns).length = ns.length := List.length_map _
theorem nD_take (ns : List Nat) (k : Nat) : (nD ns).take k = nD (ns.take k) := by unfold nD; rw [List.map_take]
theorem getD_lt {α : Type} {l : List α} {i : Nat} {d : α} (h : i < l.length) : l.getD i d = l[i] := by rw [List.getD_eq_getElem?_getD, List.getElem?_eq_getElem h]; rfl
/-- the rows rs, each place j being number es[j] then -/
def renG (es : List Nat) (rs : List Pl) : List Pl := (List.range rs.length).map fun p => ren es (rs.getD (es.idxOf p) (.fin 0))
theorem renG_len (es : List Nat) (rs : List Pl) : (renG es rs).length = rs.length := by simp [renG]
section
variable {es : List Nat} {rs : List Pl} (hes : es.Perm (List.range rs.length))
include hes
theorem es_len : es.length = rs.length := by rw [hes.length_eq, List.length_range]
theorem es_nd : es.Nodup := hes.nodup_iff.mpr List.nodup_range
theorem es_ix {p : Nat} (h : p < rs.length) : es.idxOf p < rs.length ∧ es[es.idxOf p]? = some p := by
  have hm : p ∈ es := hes.mem_iff.mpr (List.mem_range.mpr h)
  have hl := List.idxOf_lt_length_of_mem hm
  refine ⟨by rw [← es_len hes]; exact hl, ?_⟩
  rw [List.getElem?_eq_getElem hl, List.getElem_idxOf hl]
theorem es_lt {j : Nat} (h : j < rs.length) : es.getD j 0 < rs.length := by
  have hl : j < es.length := by rw [es_len hes]; exact h
  rw [getD_lt hl]
  exact List.mem_range.mp (hes.mem_iff.mp (List.getElem_mem hl))
theorem es_of {j : Nat} (h : j < rs.length) : es.idxOf (es.getD j 0) = j := by
  have hl : j < es.length := by rw [es_len hes]; exact h
  rw [getD_lt hl]
  exact (es_nd hes).idxOf_getElem j hl
theorem renG_get {p : Nat} {x : Pl} (h : (renG es rs)[p]? = some x) : p < rs.length ∧ ∃ y, rs[es.idxOf p]? = some y ∧ x = ren es y := by
  have hp : p < rs.length := by
    have := (List.getElem?_eq_some_iff.mp h).1
    rwa [renG_len] at this
  refine ⟨hp, ?_⟩
  have hj := (es_ix hes hp).1
  unfold renG at h
  rw [List.getElem?_map, List.getElem?_range hp] at h
  refine ⟨rs[es.idxOf p], List.getElem?_eq_getElem hj, ?_⟩
  have h2 : x = ren es (rs.getD (es.idxOf p) (.fin 0)) := (Option.some.inj h).symm
  rw [getD_lt hj] at h2
  exact h2
theorem renG_good (hok : ∀ (j : Nat) (p : Pl), rs[j]? = some p → PlOk j p) (hl : rs.length ≤ 12) : Good (renG es rs) := by
  refine ⟨fun p x h => ?_, by rw [renG_len]; omega⟩
  obtain ⟨hp, y, hy, rfl⟩ := renG_get hes h
  rw [renG_len]
  have hj := (es_ix hes hp).1
  have ho := hok _ _ hy
  cases y with
  | fin w => exact ho
  | mv s ms =>
    obtain ⟨h1, h2, h3, h4, h5⟩ := ho
    refine ⟨h1, fun z => h2 (by simpa using z), ?_, fun m hm => ?_, by rw [List.length_map]; exact h5⟩
    · show (ms.map _).Pairwise (· ≠ ·)
      rw [List.pairwise_map]
      refine List.Pairwise.imp_of_mem ?_ h3
      intro a b ha hb hab z
      have e1 := es_of hes (Nat.lt_trans (h4 a ha) hj)
      have e2 := es_of hes (Nat.lt_trans (h4 b hb) hj)
      rw [z, e2] at e1
      exact hab e1.symm
    · obtain ⟨k, hk, rfl⟩ := List.mem_map.mp hm
      exact es_lt hes (Nat.lt_trans (h4 k hk) hj)
theorem renG_straight (hok : ∀ (j : Nat) (p : Pl), rs[j]? = some p → PlOk j p) : Straight (renG es rs) := by
  refine ⟨es.idxOf, fun p x m h hm => ?_, fun p hp => ?_⟩
  · obtain ⟨hp, y, hy, rfl⟩ := renG_get hes h
    have hj := (es_ix hes hp).1
    cases y with
    | fin w => cases hm
    | mv s ms =>
      obtain ⟨_, _, _, h4, _⟩ := hok _ _ hy
      obtain ⟨k, hk, rfl⟩ := List.mem_map.mp hm
      show es.idxOf (es.getD k 0) < es.idxOf p
      rw [es_of hes (Nat.lt_trans (h4 k hk) hj)]
      exact h4 k hk
  · rw [renG_len] at hp ⊢
    exact (es_ix hes hp).1
theorem renG_is {x : List PyData} (hl : x.length = rs.length) (h : ∀ (j : Nat) (p : Pl) (e : Nat), j < rs.length → rs[j]? = some p → es[j]? = some e → x[e]? = some (ren es p).d) : x = (renG es rs).map Pl.d := by
  apply List.ext_getElem?
  intro p
  by_cases hp : p < rs.length
  · obtain ⟨hj, he⟩ := es_ix hes hp
    rw [h _ _ p hj (List.getElem?_eq_getElem hj) he, List.getElem?_map]
    unfold renG
    rw [List.getElem?_map, List.getElem?_range hp, Option.map_some, Option.map_some, getD_lt hj]
  · rw [List.getElem?_eq_none (by omega), List.getElem?_eq_none (by rw [List.length_map, renG_len]; omega)]
end
theorem nD_inj : ∀ {xs ys : List Nat}, nD xs = nD ys → xs = ys
  | [], [], _ => rfl
  | [], _ :: _, h => by simp [nD] at h
  | _ :: _, [], h => by simp [nD] at h
  | x :: xs, y :: ys, h => by
    have h1 : PyData.int (x : Nat) = .int (y : Nat) ∧ nD xs = nD ys := by
      have := List.cons.inj (show PyData.int (x : Nat) :: nD xs = .int (y : Nat) :: nD ys from h)
      exact this
    have h2 : (x : Int) = y := PyData.int.inj h1.1
    rw [nD_inj h1.2, show x = y by omega]
theorem Pl.d_inj {x y : Pl} (h : x.d = y.d) : x = y := by
  cases x with
  | fin w =>
    cases y with
    | fin v =>
      have h1 := PyData.tuple.inj h
      rw [PyData.int.inj (List.cons.inj (List.cons.inj h1).2).1]
    | mv s ms =>
      have h1 := PyData.tuple.inj h
      cases (List.cons.inj h1).1
  | mv s ms =>
    cases y with
    | fin v =>
      have h1 := PyData.tuple.inj h
      cases (List.cons.inj h1).1
    | mv s' ms' =>
      have h1 := PyData.tuple.inj h
      have h2 := PyData.int.inj (List.cons.inj h1).1
      have h3 := nD_inj (PyData.tuple.inj (List.cons.inj (List.cons.inj h1).2).1)
      rw [h2, h3]
theorem gD_inj {g g' : List Pl} (h : gD g = gD g') : g = g' := by
  have h1 : g.map Pl.d = g'.map Pl.d := PyData.tuple.inj h
  exact List.map_inj_right (fun _ _ e => Pl.d_inj e) |>.mp h1
theorem gD_at {g : List Pl} {p : Nat} {x : Pl} (h : g[p]? = some x) : atI (g.map Pl.d) (p : Int) = some x.d := atI_nat (by rw [List.getElem?_map, h]; rfl)

/-! ### a place: its side, and the rest of it -/
def oD : Option Nat → PyData
  | none => .none
  | some m => .int (m : Nat)
def Pl.side : Pl → PyData
  | .fin _ => .str "end"
  | .mv s _ => .int s
def Pl.more : Pl → PyData
  | .fin w => .int w
  | .mv _ ms => .tuple (nD ms)
theorem Pl.d_eq (x : Pl) : x.d = .tuple [x.side, x.more] := by cases x <;> rfl
def Pl.isEnd : Pl → Bool
  | .fin _ => true
  | .mv _ _ => false

def chI (s : Int) (xs : List Int) : Int := if s = 0 then maxI xs else minI xs
/-! ### what is told of a place by those to which it moves -/
def fixS {α : Type} (d : α) (F : (Nat → α) → Pl → α) (g : List Pl) : Nat → Nat → α
  | 0, _ => d
  | k + 1, p => match g[p]? with | some x => F (fixS d F g k) x | none => d
def valS {α : Type} (d : α) (F : (Nat → α) → Pl → α) (g : List Pl) (p : Nat) : α := fixS d F g g.length p
structure Rk (g : List Pl) (rk : Nat → Nat) : Prop where
  dn : ∀ (p : Nat) (x : Pl) (m : Nat), g[p]? = some x → m ∈ x.moves → rk m < rk p
  lt : ∀ p, p < g.length → rk p < g.length
theorem Straight.rk {g : List Pl} (h : Straight g) : ∃ rk, Rk g rk := by
  obtain ⟨rk, h1, h2⟩ := h.ex
  exact ⟨rk, h1, h2⟩
/-- what F tells rests on the moves alone -/
def Loc1 {α : Type} (F : (Nat → α) → Pl → α) : Prop := ∀ f f' x, (∀ m ∈ x.moves, f m = f' m) → F f x = F f' x
theorem fix_stable {α : Type} {d : α} {F : (Nat → α) → Pl → α} {g : List Pl} {rk : Nat → Nat} (hF : Loc1 F) (h : Rk g rk) : ∀ (k k' p : Nat), rk p < k → rk p < k' → fixS d F g k p = fixS d F g k' p
  | 0, _, _, h1, _ => absurd h1 (Nat.not_lt_zero _)
  | _ + 1, 0, _, _, h2 => absurd h2 (Nat.not_lt_zero _)
  | k + 1, k' + 1, p, h1, h2 => by
    rw [fixS, fixS]
    cases e : g[p]? with
    | none => rfl
    | some x =>
      refine hF _ _ x fun m hm => ?_
      have := h.dn p x m e hm
      exact fix_stable hF h k k' m (by omega) (by omega)
theorem val_eq {α : Type} {d : α} {F : (Nat → α) → Pl → α} {g : List Pl} {rk : Nat → Nat} (hF : Loc1 F) (h : Rk g rk) {p : Nat} {x : Pl} (e : g[p]? = some x) : valS d F g p = F (valS d F g) x := by
  have hp : p < g.length := (List.getElem?_eq_some_iff.mp e).1
  have hr := h.lt p hp
  have h1 : valS d F g p = fixS d F g (g.length + 1) p := fix_stable hF h _ _ p hr (by omega)
  rw [h1, fixS, e]
  rfl
/-- the worth of a place -/
def wF (f : Nat → Int) : Pl → Int
  | .fin w => w
  | .mv s ms => chI s (ms.map f)
def wor (g : List Pl) (p : Nat) : Int := valS 0 wF g p
theorem wF_loc : Loc1 wF := fun f f' x h => by
  cases x with
  | fin w => rfl
  | mv s ms =>
    have e : ms.map f = ms.map f' := List.map_congr_left h
    show chI s (ms.map f) = chI s (ms.map f')
    rw [e]
theorem wor_fin {g : List Pl} {rk : Nat → Nat} (h : Rk g rk) {p : Nat} {w : Int} (e : g[p]? = some (.fin w)) : wor g p = w := val_eq wF_loc h e
theorem wor_mv {g : List Pl} {rk : Nat → Nat} (h : Rk g rk) {p : Nat} {s : Int} {ms : List Nat} (e : g[p]? = some (.mv s ms)) : wor g p = chI s (ms.map (wor g)) := val_eq wF_loc h e

theorem gD_get {g : List Pl} {p : Nat} {x : Pl} (h : g[p]? = some x) : (g.map Pl.d)[p]? = some x.d := by rw [List.getElem?_map, h]; rfl
theorem gD_len (g : List Pl) : (g.map Pl.d).length = g.length := List.length_map _
theorem ixD_g {g : List Pl} {p : Nat} {x : Pl} (h : g[p]? = some x) : ixD (gD g) (.int (p : Int)) = some x.d := ixD_tN (gD_get h)
theorem lenD_g {g : List Pl} : lenD [gD g] = some (.int (g.length : Nat)) := by show some (PyData.int ((g.map Pl.d).length : Nat)) = _; rw [List.length_map]
theorem lenD_n {ms : List Nat} : lenD [.tuple (nD ms)] = some (.int (ms.length : Nat)) := by show some (PyData.int ((nD ms).length : Nat)) = _; rw [nD_len]
theorem seqD_g {g : List Pl} : seqD (gD g) = some (g.map Pl.d) := rfl
local macro_rules | `(tactic| walk_at "op") => `(tactic| ((with_reducible apply ixD_g); assumption))
local macro_rules | `(tactic| walk_at "bi") => `(tactic| with_reducible exact lenD_g)
local macro_rules | `(tactic| walk_at "bi") => `(tactic| with_reducible exact lenD_n)

end
section
local macro_rules | `(tactic| walk_at "tr") => `(tactic| first | rfl | exact decide_eq_true (by omega) | exact decide_eq_false (by omega) | with_reducible assumption | (simp only [Bool.and_eq_true, Bool.and_eq_false_iff, Bool.or_eq_true, Bool.or_eq_false_iff, Bool.not_eq_true', Bool.not_eq_false', decide_eq_true_eq, decide_eq_false_iff_not]; omega) | (simp; done))
local macro_rules | `(tactic| walk_at "le") => `(tactic| first | omega | (simp only [List.length_cons, List.length_nil, List.length_append, List.length_map]; omega) | decide)
local macro_rules | `(tactic| walk_at "gt") => `(tactic| first | with_reducible assumption | with_reducible rfl | rfl)
local macro_rules | `(tactic| walk_at "op") => `(tactic| first
  | with_reducible exact plusD_ii | with_reducible exact subD_ii | with_reducible exact addI_ii | with_reducible exact ltD_ii | with_reducible exact leD_ii | with_reducible exact gtD_ii | with_reducible exact geD_ii
  | with_reducible exact eqD_ii | with_reducible exact eqD_ss | with_reducible exact eqD_is | with_reducible exact eqD_si | with_reducible exact eqD_bb | with_reducible exact neD_ii | with_reducible exact neD_ss | with_reducible exact neD_is | with_reducible exact neD_si | with_reducible exact neD_bb
  | with_reducible assumption
  | ((with_reducible apply modD_ev); omega) | ((with_reducible apply fdivD_ev); omega) | ((with_reducible apply mulD_ev); (first | exact Or.inl ⟨by omega, by omega⟩ | exact Or.inr ⟨by omega, by omega⟩))
  | ((with_reducible apply ixD_t0); walk_at "gt") | ((with_reducible apply ixD_l0); walk_at "gt") | ((with_reducible apply ixD_t1); walk_at "gt") | ((with_reducible apply ixD_l1); walk_at "gt")
  | ((with_reducible apply ixD_last); walk_at "gt") | ((with_reducible apply ixD_lastL); walk_at "gt")
  | ((with_reducible apply ixD_tN); walk_at "gt") | ((with_reducible apply ixD_lN); walk_at "gt")
  | ((with_reducible apply ixD_t); omega; walk_at "gt") | ((with_reducible apply ixD_l); omega; walk_at "gt")
  | ((with_reducible apply plusD_l); walk_at "le") | ((with_reducible apply plusD_t); walk_at "le"))
local macro_rules | `(tactic| walk_at "at") => `(tactic| first | with_reducible assumption | ((with_reducible apply atI_z); walk_at "gt") | ((with_reducible apply atI_last); walk_at "gt") | ((with_reducible apply atI_N); walk_at "gt") | ((with_reducible apply atI_i); omega; walk_at "gt") | ((with_reducible apply atI_last); walk_at "gt"))
local macro_rules | `(tactic| walk_at "ki") => `(tactic| first | with_reducible exact k_bb | with_reducible exact k_tt | with_reducible exact k_ss | with_reducible exact k_ii | with_reducible exact k_ib | with_reducible exact k_it | with_reducible exact k_is | with_reducible exact k_tb | with_reducible exact k_sb | with_reducible exact k_st | with_reducible exact k_bi | with_reducible exact k_bt | with_reducible exact k_bs | with_reducible exact k_ti | with_reducible exact k_ts | with_reducible exact k_si | with_reducible exact k_nb | with_reducible exact k_nt | with_reducible exact k_ns | with_reducible exact k_ni | with_reducible exact k_lt | with_reducible exact k_lb | with_reducible exact k_ls | with_reducible exact k_li)
local macro_rules | `(tactic| walk_at "cl") => `(tactic| with_reducible assumption)
local macro_rules | `(tactic| walk_at "bi") => `(tactic| first | with_reducible assumption | rfl)
local macro_rules | `(tactic| walk_at "lc") => `(tactic| with_reducible assumption)
local macro_rules | `(tactic| walk_at "ar") => `(tactic| first | with_reducible exact aNil_ev | ((with_reducible apply aCons_ev); (walk_at "ev"); (walk_at "ar")))
local macro_rules | `(tactic| walk_at "va") => `(tactic| first | with_reducible exact vNil_ev | ((with_reducible apply vCons_ev); ((with_reducible apply vE_ev); (walk_at "ev")); (walk_at "va")) | ((with_reducible apply vCons_ev); ((with_reducible apply vR_ev); rfl); (walk_at "va")))
local macro_rules | `(tactic| walk_at "os") => `(tactic| first | with_reducible exact oNone_ev | ((with_reducible apply oSome_ev); (walk_at "ev")))
local macro_rules | `(tactic| walk_at "ls") => `(tactic| first
  | ((with_reducible apply lLst_ev); (walk_at "ar"); (walk_at "le"))
  | ((with_reducible apply lList_ev); (walk_at "ev"); rfl)
  | ((with_reducible apply lListV_ev); rfl)
  | ((with_reducible apply lListRg_ev); (walk_at "ev"); omega)
  | ((with_reducible apply lListRg2_ev); (walk_at "ev"); (walk_at "ev"); omega; omega)
  | ((with_reducible apply lRep_ev); (walk_at "ar"); (walk_at "ev"); omega; (walk_at "le"))
  | ((with_reducible apply lLc_ev); (walk_at "it"); (walk_at "lc"))
  | ((with_reducible apply lKeys_ev); rfl))
local macro_rules | `(tactic| walk_at "it") => `(tactic| first
  | ((with_reducible apply iSq_ev); (walk_at "ev"); rfl)
  | ((with_reducible apply iRg1_ev); (walk_at "ev"); omega)
  | ((with_reducible apply iRg2_ev); (walk_at "ev"); (walk_at "ev"); omega; omega)
  | ((with_reducible apply iEn_ev); (walk_at "ev"))
  | ((with_reducible apply iZp_T); (walk_at "ev"); (walk_at "ev"))
  | ((with_reducible apply iZp_L); (walk_at "ev"); (walk_at "ev")))
local macro_rules | `(tactic| walk_at "dg") => `(tactic| with_reducible assumption)
local macro_rules | `(tactic| walk_at "dl") => `(tactic| with_reducible exact lDnew_ev)
local macro_rules | `(tactic| walk_at "nt") => `(tactic| first | with_reducible exact uNil_ev | ((with_reducible apply uD_ev); (walk_at "ev"); (walk_at "nt")) | ((with_reducible apply uL_ev); (walk_at "ls"); (walk_at "nt")) | ((with_reducible apply uC_ev); (walk_at "dl"); (walk_at "nt")))
local macro_rules | `(tactic| walk_at "ev") => `(tactic| first
  | ((with_reducible apply eVar_ev); rfl) | with_reducible exact eC_ev
  | ((with_reducible apply eOp_ev); (walk_at "ev"); (walk_at "ev"); (walk_at "op"))
  | ((with_reducible apply eUn_ev); (walk_at "ev"); rfl)
  | ((with_reducible apply eCB_ev); (walk_at "ar"); (walk_at "bi"))
  | ((with_reducible apply eTup_ev); (walk_at "ar"); (walk_at "le"))
  | ((with_reducible apply eL_ev); (walk_at "ls"))
  | ((with_reducible apply eCall_ev); (walk_at "va"); (walk_at "cl"))
  | ((with_reducible apply eCallK_ev); (walk_at "va"); (walk_at "va"); (walk_at "cl"))
  | ((with_reducible apply eCallD_ev); (walk_at "va"); (walk_at "cl"))
  | ((with_reducible apply eIsN_ev); (walk_at "ev"))
  | ((with_reducible apply eNotN_ev); (walk_at "ev"))
  | ((with_reducible apply eIsi_ev); (walk_at "ev"); (walk_at "ki"))
  | ((with_reducible apply eNot_ev); (walk_at "ev"); rfl)
  | ((with_reducible apply eChain_B); (walk_at "ev"); (walk_at "ev"); (walk_at "op"); (walk_at "ev"); (walk_at "op"))
  | ((with_reducible apply eSl_ev); (walk_at "ev"); (walk_at "os"); (walk_at "os"); rfl)
  | ((with_reducible apply eIxV_ev); rfl; (walk_at "ev"); rfl; (walk_at "at"))
  | ((with_reducible apply eLenV_ev); rfl)
  | ((with_reducible apply eTupleV_ev); rfl)
  | ((with_reducible apply eSlV_ev); rfl; (walk_at "os"); (walk_at "os"); rfl)
  | ((with_reducible apply eInV_ev); (walk_at "ev"); rfl; (walk_at "op"))
  | ((with_reducible apply eDget_ev); rfl; (walk_at "ev"); rfl; with_reducible exact keyO_i; (walk_at "dg"))
  | ((with_reducible apply eDin_ev); (walk_at "ev"); rfl; with_reducible exact keyO_i)
  | ((with_reducible apply eDnot_ev); (walk_at "ev"); rfl; with_reducible exact keyO_i)
  | ((with_reducible apply eLenD_ev); rfl)
  | ((with_reducible apply eIf_D); (walk_at "be"); (first | ((with_reducible apply cd_T); (walk_at "tr"); (walk_at "ev")) | ((with_reducible apply cd_F); (walk_at "tr"); (walk_at "ev"))))
  | ((with_reducible apply eAnd_F); (walk_at "ev"); rfl)
  | ((with_reducible apply eAnd_T); (walk_at "ev"); rfl; (walk_at "ev"))
  | ((with_reducible apply eOr_T); (walk_at "ev"); rfl)
  | ((with_reducible apply eOr_F); (walk_at "ev"); rfl; (walk_at "ev"))
  | ((with_reducible apply eAnd_B); (walk_at "ev"); (intro _; walk_at "ev"))
  | ((with_reducible apply eOr_B); (walk_at "ev"); (intro _; walk_at "ev")))
local macro_rules | `(tactic| walk_at "be") => `(tactic| first
  | with_reducible exact bYes_ev
  | ((with_reducible apply bTest_ev); (walk_at "ev"))
  | ((with_reducible apply bTru_ev); (walk_at "ev"); rfl)
  | ((with_reducible apply bTruV_ev); rfl)
  | ((with_reducible apply bTruD_ev); rfl)
  | ((with_reducible apply bNot_ev); (walk_at "be"))
  | ((with_reducible apply bIf_D); (walk_at "be"); (first | ((with_reducible apply cd_T); (walk_at "tr"); (walk_at "be")) | ((with_reducible apply cd_F); (walk_at "tr"); (walk_at "be"))))
  | ((with_reducible apply bAnd_D); (walk_at "be"); (first | ((with_reducible apply cd_T); (walk_at "tr"); (walk_at "be")) | ((with_reducible apply cd_F); (walk_at "tr"); rfl)))
  | ((with_reducible apply bOr_D); (walk_at "be"); (first | ((with_reducible apply cd_T); (walk_at "tr"); rfl) | ((with_reducible apply cd_F); (walk_at "tr"); (walk_at "be"))))
  | ((with_reducible apply bAnd_B); (walk_at "be"); (intro _; walk_at "be"))
  | ((with_reducible apply bOr_B); (walk_at "be"); (intro _; walk_at "be")))
local macro_rules | `(tactic| walk_at "ex") => `(tactic| first
  | with_reducible exact xNext_ev | with_reducible exact xBreak_ev | with_reducible exact xCont_ev
  | ((with_reducible apply xAsg_ev); (walk_at "ev"))
  | ((with_reducible apply xAsgG_ev); (walk_at "ev"); rfl)
  | ((with_reducible apply xAsgL_ev); (walk_at "ls"))
  | ((with_reducible apply xNewL_ev); (walk_at "ls"))
  | ((with_reducible apply xAug_ev); rfl; (walk_at "ev"); (walk_at "op"))
  | ((with_reducible apply xDrop_ev); (walk_at "ev"))
  | ((with_reducible apply xRet_ev); (walk_at "ev"))
  | ((with_reducible apply xApp_ev); rfl; (walk_at "ev"); rfl; (walk_at "le"))
  | ((with_reducible apply xSetI_ev); (walk_at "ev"); rfl; (walk_at "ev"); rfl; exact ixN_in (by walk_at "le"))
  | ((with_reducible apply xPar_ev); (walk_at "ev"); (walk_at "ev"))
  | ((with_reducible apply xParDL_ev); (walk_at "ev"); (walk_at "ls"))
  | ((with_reducible apply xParLD_ev); (walk_at "ls"); (walk_at "ev"))
  | ((with_reducible apply xParLL_ev); (walk_at "ls"); (walk_at "ls"))
  | ((with_reducible apply xPar3_ev); (walk_at "ar"))
  | ((with_reducible apply xDput_ev); (walk_at "ev"); rfl; (walk_at "ev"); rfl; with_reducible exact keyO_i; (walk_at "le"))
  | ((with_reducible apply xDpop_ev); rfl; (walk_at "ev"); rfl; with_reducible exact keyO_i; (walk_at "dg"))
  | ((with_reducible apply xAsgC_ev); (walk_at "dl"))
  | ((with_reducible apply xTup2_ev); (walk_at "nt"))
  | ((with_reducible apply xFrz_O); rfl; (walk_at "ex"))
  | ((with_reducible apply xFrz_D); rfl; (walk_at "ex"))
  | ((with_reducible apply xIf_D); (walk_at "be"); (first | ((with_reducible apply cd_T); (walk_at "tr"); (walk_at "ex")) | ((with_reducible apply cd_F); (walk_at "tr"); (walk_at "ex"))))
  | ((with_reducible apply xSeq_ev); (walk_at "ex"); (walk_at "ex")))
local macro_rules | `(tactic| walk_at "st") => `(tactic| ((first | refine rt_seq (by walk_at "ex") ?_ | refine seq_step (by walk_at "ex") ?_); try simp only [List.set_cons_succ, List.set_cons_zero]))
local macro_rules | `(tactic| walk_at "rt") => `(tactic| refine rt_is (rt_ret (by walk_at "ev")) ?_ ?_)
local macro_rules | `(tactic| walk_at "yes") => `(tactic| (first | refine rt_now (rt_T (by walk_at "be") (by walk_at "tr") ?_) | refine rt_T (by walk_at "be") (by walk_at "tr") ?_))
local macro_rules | `(tactic| walk_at "noo") => `(tactic| (first | refine rt_now (rt_F (by walk_at "be") (by walk_at "tr") ?_) | refine rt_F (by walk_at "be") (by walk_at "tr") ?_))
local macro_rules | `(tactic| walk_at "op") => `(tactic| ((with_reducible apply ixD_g); assumption))
local macro_rules | `(tactic| walk_at "bi") => `(tactic| with_reducible exact lenD_g)
local macro_rules | `(tactic| walk_at "bi") => `(tactic| with_reducible exact lenD_n)
/-! ### picks, mixed rows, worths -/
def m_l_pick (F_l_draw : FS) : X :=
  (xRet (eOp ixD (eVar 2) (eCall F_l_draw (vCons (vE (eVar 0)) (vCons (vR 1) (vCons (vE (eCB lenD (aCons (eVar 2) aNil))) vNil))))))
def f_l_pick : FS := fnS 3 (m_l_pick f_l_draw)

def pkD (ns : List Int) (n : Nat) (ds : List PyData) : PyData := ds.getD (drN ns n % (ds.length : Int)).toNat .none
theorem pkD_at (ns : List Int) (n : Nat) {ds : List PyData} (h : 0 < ds.length) : ∃ k, k < ds.length ∧ drN ns n % (ds.length : Int) = (k : Nat) ∧ ds[k]? = some (pkD ns n ds) := by
  obtain ⟨k, hk, hl⟩ := drN_nat ns n h
  refine ⟨k, hl, hk, ?_⟩
  unfold pkD
  rw [hk, Int.toNat_natCast, List.getD_eq_getElem?_getD, List.getElem?_eq_getElem hl]
  rfl
theorem pkD_mem (ns : List Int) (n : Nat) {ds : List PyData} (h : 0 < ds.length) : pkD ns n ds ∈ ds := by
  obtain ⟨k, _, _, e⟩ := pkD_at ns n h
  exact List.mem_of_getElem? e
theorem pick_eq (ns : List Int) (n : Nat) (ds : List PyData) (g : Sg) (hn : n < 90000) (hd : 0 < ds.length) (hz : ns.length ≤ 63) : f_l_pick [scr ns, .ref 0, .dat (.list ds)] (tw ns n g) = some (.dat (pkD ns n ds), tw ns (n + 1) g) := by
  unfold f_l_pick m_l_pick
  refine fn_ret (l := [scr ns, .ref 0, .dat (.list ds)]) rfl ?_
  obtain ⟨k, hk, e, hg⟩ := pkD_at ns n hd
  have hdr := draw_eq ns n (ds.length : Int) g hn (by omega) hz
  rw [e] at hdr
  walk_at "rt"
  · rfl
  · rfl
def b_l_mixed_1 (F_l_draw : FS) : X :=
  (xApp 4 (ePopAt 3 (eCall F_l_draw (vCons (vE (eVar 0)) (vCons (vR 1) (vCons (vE (eLenV 3)) vNil))))))
def m_l_mixed (F_l_draw : FS) : X :=
  (xSeq (xParLL 3 4 (lList (eVar 2)) (lLst aNil))
  (xSeq (xWhile (bTruV 3)
    (b_l_mixed_1 F_l_draw))
  (xFrz 4 (xRet (eVar 4)))))
def f_l_mixed : FS := fnS 5 (m_l_mixed f_l_draw)

def mxL (ns : List Int) : Nat → Nat → List PyData → List PyData
  | 0, _, _ => []
  | f + 1, n, ds => match ds[(drN ns n % (ds.length : Int)).toNat]? with
    | none => []
    | some d => d :: mxL ns f (n + 1) (ds.eraseIdx (drN ns n % (ds.length : Int)).toNat)
theorem erase_perm {α : Type} : ∀ (l : List α) (j : Nat) (h : j < l.length), (l[j] :: l.eraseIdx j).Perm l
  | [], j, h => absurd h (Nat.not_lt_zero _)
  | x :: l, 0, h => List.Perm.refl _
  | x :: l, j + 1, h => (List.Perm.swap _ _ _).trans ((erase_perm l j (by simpa using h)).cons x)
theorem mxL_perm (ns : List Int) : ∀ (f n : Nat) (ds : List PyData), ds.length = f → (mxL ns f n ds).Perm ds
  | 0, _, ds, h => by
    rw [List.length_eq_zero_iff.mp h]
    exact List.Perm.refl _
  | f + 1, n, ds, h => by
    obtain ⟨k, hk, hl⟩ := drN_nat ns n (m := ds.length) (by omega)
    rw [mxL, hk, Int.toNat_natCast, List.getElem?_eq_getElem hl]
    exact ((mxL_perm ns f (n + 1) _ (by rw [List.length_eraseIdx, if_pos hl]; omega)).cons _).trans (erase_perm ds k hl)
theorem mixed_run (ns : List Int) (g : Sg) (hz : ns.length ≤ 63) (x2 : Vl) : ∀ (f n : Nat) (ds acc : List PyData), ds.length = f → n + f < 90000 → acc.length + f < 90000 →
    whF (bTruV 3) (xApp 4 (ePopAt 3 (eCall f_l_draw (vCons (vE (eVar 0)) (vCons (vR 1) (vCons (vE (eLenV 3)) vNil)))))) (f + 1) [scr ns, .ref 0, x2, .own ds, .own acc] (tw ns n g) = some (.nx, [scr ns, .ref 0, x2, .own [], .own (acc ++ mxL ns f n ds)], tw ns (n + f) g)
  | 0, n, ds, acc, h, _, _ => by
    rw [List.length_eq_zero_iff.mp h, whF_at]
    simp [bTruV_at, lsV, ob, oo, mxL]
  | f + 1, n, ds, acc, h, hn, ha => by
    obtain ⟨k, hk, hl⟩ := drN_nat ns n (m := ds.length) (by omega)
    have hdr := draw_eq ns n (ds.length : Int) g (by omega) (by omega) hz
    rw [hk] at hdr
    have hne : (!ds.isEmpty) = true := by cases ds with
      | nil => simp at h
      | cons => rfl
    have hx : xApp 4 (ePopAt 3 (eCall f_l_draw (vCons (vE (eVar 0)) (vCons (vR 1) (vCons (vE (eLenV 3)) vNil))))) [scr ns, .ref 0, x2, .own ds, .own acc] (tw ns n g) = some (.nx, [scr ns, .ref 0, x2, .own (ds.eraseIdx k), .own (acc ++ [ds[k]])], tw ns (n + 1) g) := by
      refine Eq.trans (xApp_ev rfl (ePopAt_ev rfl (by walk_at "ev") rfl (seqIx_in (by omega)) (by omega) (by rw [Int.toNat_natCast]; exact List.getElem?_eq_getElem hl)) rfl (by show acc.length < 100000; omega)) ?_
      rw [Int.toNat_natCast]
      rfl
    have ih := mixed_run ns g hz x2 f (n + 1) (ds.eraseIdx k) (acc ++ [ds[k]]) (by rw [List.length_eraseIdx, if_pos hl]; omega) (by omega) (by simp; omega)
    rw [whF_at, bTruV_ev rfl, ob_some, if_pos hne, hx, ol_nx, ih, mxL, hk, Int.toNat_natCast, List.getElem?_eq_getElem hl]
    simp only [List.append_assoc, List.singleton_append]
    rw [show n + 1 + f = n + (f + 1) by omega]
theorem mixed_eq (ns : List Int) (n : Nat) (ds : List PyData) (g : Sg) (hn : n + ds.length < 90000) (hd : ds.length ≤ 1000) (hz : ns.length ≤ 63) : f_l_mixed [scr ns, .ref 0, .dat (.list ds)] (tw ns n g) = some (.dat (.list (mxL ns ds.length n ds)), tw ns (n + ds.length) g) := by
  unfold f_l_mixed m_l_mixed
  refine fn_ret (l := [scr ns, .ref 0, .dat (.list ds), .no, .no]) rfl ?_
  walk_at "st"
  refine rt_seq (xWhile_of (mixed_run ns g hz _ ds.length n ds [] rfl hn (by simp; omega)) (by omega)) ?_
  refine rt_frz rfl ?_
  walk_at "rt"
  · rfl
  · rfl
def m_l_drawn_worth (F_l_draw F_l_pick : FS) : X :=
  (xSeq (xAsg 2 (eOp subD (eCall F_l_draw (vCons (vE (eVar 0)) (vCons (vR 1) (vCons (vE (eC (.int 5))) vNil)))) (eC (.int 2))))
  (xRet (eCall F_l_pick (vCons (vE (eVar 0)) (vCons (vR 1) (vCons (vE (eL (lLst (aCons (eVar 2) (aCons (eVar 2) (aCons (eVar 2) (aCons (eVar 2) (aCons (eC (.int 99)) (aCons (eUn negD (eC (.int 99))) (aCons (eOp subD (eCall F_l_draw (vCons (vE (eVar 0)) (vCons (vR 1) (vCons (vE (eC (.int 199))) vNil)))) (eC (.int 99))) aNil)))))))))) vNil))))))
def f_l_drawn_worth : FS := fnS 3 (m_l_drawn_worth f_l_draw f_l_pick)

def dwI (ns : List Int) (n : Nat) : Int := match pkD ns (n + 2) [.int (drN ns n % 5 - 2), .int (drN ns n % 5 - 2), .int (drN ns n % 5 - 2), .int (drN ns n % 5 - 2), .int 99, .int (-99), .int (drN ns (n + 1) % 199 - 99)] with
  | .int i => i
  | _ => 0
theorem dwI_ok (ns : List Int) (n : Nat) : pkD ns (n + 2) [.int (drN ns n % 5 - 2), .int (drN ns n % 5 - 2), .int (drN ns n % 5 - 2), .int (drN ns n % 5 - 2), .int 99, .int (-99), .int (drN ns (n + 1) % 199 - 99)] = .int (dwI ns n) ∧ -99 ≤ dwI ns n ∧ dwI ns n ≤ 99 := by
  have h1 := drN_int ns n (m := 5) (by omega)
  have h2 := drN_int ns (n + 1) (m := 199) (by omega)
  have hm := pkD_mem ns (n + 2) (ds := [.int (drN ns n % 5 - 2), .int (drN ns n % 5 - 2), .int (drN ns n % 5 - 2), .int (drN ns n % 5 - 2), .int 99, .int (-99), .int (drN ns (n + 1) % 199 - 99)]) (by simp)
  unfold dwI
  generalize pkD ns (n + 2) [.int (drN ns n % 5 - 2), .int (drN ns n % 5 - 2), .int (drN ns n % 5 - 2), .int (drN ns n % 5 - 2), .int 99, .int (-99), .int (drN ns (n + 1) % 199 - 99)] = d at hm
  simp only [List.mem_cons, List.not_mem_nil, or_false] at hm
  rcases hm with rfl | rfl | rfl | rfl | rfl | rfl | rfl <;> exact ⟨rfl, by simp only; omega, by simp only; omega⟩
theorem dworth_eq (ns : List Int) (n : Nat) (g : Sg) (hn : n + 3 < 90000) (hz : ns.length ≤ 63) : f_l_drawn_worth [scr ns, .ref 0] (tw ns n g) = some (.dat (.int (dwI ns n)), tw ns (n + 3) g) := by
  unfold f_l_drawn_worth m_l_drawn_worth
  refine fn_ret (l := [scr ns, .ref 0, .no]) rfl ?_
  have d1 := draw_eq ns n 5 g (by omega) (by omega) hz
  have d2 := draw_eq ns (n + 1) 199 g (by omega) (by omega) hz
  walk_at "st"
  have p := pick_eq ns (n + 2) [.int (drN ns n % 5 - 2), .int (drN ns n % 5 - 2), .int (drN ns n % 5 - 2), .int (drN ns n % 5 - 2), .int 99, .int (-99), .int (drN ns (n + 1) % 199 - 99)] g (by omega) (by simp) hz
  rw [(dwI_ok ns n).1] at p
  walk_at "rt"
  · rfl
  · rfl
local macro_rules | `(tactic| walk_at "cl") => `(tactic| ((with_reducible apply draw_eq) <;> first | omega | assumption))
local macro_rules | `(tactic| walk_at "cl") => `(tactic| ((with_reducible apply dworth_eq) <;> first | omega | assumption))

end
section
local macro_rules | `(tactic| walk_at "tr") => `(tactic| first | rfl | exact decide_eq_true (by omega) | exact decide_eq_false (by omega) | with_reducible assumption | (simp only [Bool.and_eq_true, Bool.and_eq_false_iff, Bool.or_eq_true, Bool.or_eq_false_iff, Bool.not_eq_true', Bool.not_eq_false', decide_eq_true_eq, decide_eq_false_iff_not]; omega) | (simp; done))
local macro_rules | `(tactic| walk_at "le") => `(tactic| first | omega | (simp only [List.length_cons, List.length_nil, List.length_append, List.length_map]; omega) | decide)
local macro_rules | `(tactic| walk_at "gt") => `(tactic| first | with_reducible assumption | with_reducible rfl | rfl)
local macro_rules | `(tactic| walk_at "op") => `(tactic| first
  | with_reducible exact plusD_ii | with_reducible exact subD_ii | with_reducible exact addI_ii | with_reducible exact ltD_ii | with_reducible exact leD_ii | with_reducible exact gtD_ii | with_reducible exact geD_ii
  | with_reducible exact eqD_ii | with_reducible exact eqD_ss | with_reducible exact eqD_is | with_reducible exact eqD_si | with_reducible exact eqD_bb | with_reducible exact neD_ii | with_reducible exact neD_ss | with_reducible exact neD_is | with_reducible exact neD_si | with_reducible exact neD_bb
  | with_reducible assumption
  | ((with_reducible apply modD_ev); omega) | ((with_reducible apply fdivD_ev); omega) | ((with_reducible apply mulD_ev); (first | exact Or.inl ⟨by omega, by omega⟩ | exact Or.inr ⟨by omega, by omega⟩))
  | ((with_reducible apply ixD_t0); walk_at "gt") | ((with_reducible apply ixD_l0); walk_at "gt") | ((with_reducible apply ixD_t1); walk_at "gt") | ((with_reducible apply ixD_l1); walk_at "gt")
  | ((with_reducible apply ixD_last); walk_at "gt") | ((with_reducible apply ixD_lastL); walk_at "gt")
  | ((with_reducible apply ixD_tN); walk_at "gt") | ((with_reducible apply ixD_lN); walk_at "gt")
  | ((with_reducible apply ixD_t); omega; walk_at "gt") | ((with_reducible apply ixD_l); omega; walk_at "gt")
  | ((with_reducible apply plusD_l); walk_at "le") | ((with_reducible apply plusD_t); walk_at "le"))
local macro_rules | `(tactic| walk_at "at") => `(tactic| first | with_reducible assumption | ((with_reducible apply atI_z); walk_at "gt") | ((with_reducible apply atI_last); walk_at "gt") | ((with_reducible apply atI_N); walk_at "gt") | ((with_reducible apply atI_i); omega; walk_at "gt") | ((with_reducible apply atI_last); walk_at "gt"))
local macro_rules | `(tactic| walk_at "ki") => `(tactic| first | with_reducible exact k_bb | with_reducible exact k_tt | with_reducible exact k_ss | with_reducible exact k_ii | with_reducible exact k_ib | with_reducible exact k_it | with_reducible exact k_is | with_reducible exact k_tb | with_reducible exact k_sb | with_reducible exact k_st | with_reducible exact k_bi | with_reducible exact k_bt | with_reducible exact k_bs | with_reducible exact k_ti | with_reducible exact k_ts | with_reducible exact k_si | with_reducible exact k_nb | with_reducible exact k_nt | with_reducible exact k_ns | with_reducible exact k_ni | with_reducible exact k_lt | with_reducible exact k_lb | with_reducible exact k_ls | with_reducible exact k_li)
local macro_rules | `(tactic| walk_at "cl") => `(tactic| with_reducible assumption)
local macro_rules | `(tactic| walk_at "bi") => `(tactic| first | with_reducible assumption | rfl)
local macro_rules | `(tactic| walk_at "lc") => `(tactic| with_reducible assumption)
local macro_rules | `(tactic| walk_at "ar") => `(tactic| first | with_reducible exact aNil_ev | ((with_reducible apply aCons_ev); (walk_at "ev"); (walk_at "ar")))
local macro_rules | `(tactic| walk_at "va") => `(tactic| first | with_reducible exact vNil_ev | ((with_reducible apply vCons_ev); ((with_reducible apply vE_ev); (walk_at "ev")); (walk_at "va")) | ((with_reducible apply vCons_ev); ((with_reducible apply vR_ev); rfl); (walk_at "va")))
local macro_rules | `(tactic| walk_at "os") => `(tactic| first | with_reducible exact oNone_ev | ((with_reducible apply oSome_ev); (walk_at "ev")))
local macro_rules | `(tactic| walk_at "ls") => `(tactic| first
  | ((with_reducible apply lLst_ev); (walk_at "ar"); (walk_at "le"))
  | ((with_reducible apply lList_ev); (walk_at "ev"); rfl)
  | ((with_reducible apply lListV_ev); rfl)
  | ((with_reducible apply lListRg_ev); (walk_at "ev"); omega)
  | ((with_reducible apply lListRg2_ev); (walk_at "ev"); (walk_at "ev"); omega; omega)
  | ((with_reducible apply lRep_ev); (walk_at "ar"); (walk_at "ev"); omega; (walk_at "le"))
  | ((with_reducible apply lLc_ev); (walk_at "it"); (walk_at "lc"))
  | ((with_reducible apply lKeys_ev); rfl))
local macro_rules | `(tactic| walk_at "it") => `(tactic| first
  | ((with_reducible apply iSq_ev); (walk_at "ev"); rfl)
  | ((with_reducible apply iRg1_ev); (walk_at "ev"); omega)
  | ((with_reducible apply iRg2_ev); (walk_at "ev"); (walk_at "ev"); omega; omega)
  | ((with_reducible apply iEn_ev); (walk_at "ev"))
  | ((with_reducible apply iZp_T); (walk_at "ev"); (walk_at "ev"))
  | ((with_reducible apply iZp_L); (walk_at "ev"); (walk_at "ev")))
local macro_rules | `(tactic| walk_at "dg") => `(tactic| with_reducible assumption)
local macro_rules | `(tactic| walk_at "dl") => `(tactic| with_reducible exact lDnew_ev)
local macro_rules | `(tactic| walk_at "nt") => `(tactic| first | with_reducible exact uNil_ev | ((with_reducible apply uD_ev); (walk_at "ev"); (walk_at "nt")) | ((with_reducible apply uL_ev); (walk_at "ls"); (walk_at "nt")) | ((with_reducible apply uC_ev); (walk_at "dl"); (walk_at "nt")))
local macro_rules | `(tactic| walk_at "ev") => `(tactic| first
  | ((with_reducible apply eVar_ev); rfl) | with_reducible exact eC_ev
  | ((with_reducible apply eOp_ev); (walk_at "ev"); (walk_at "ev"); (walk_at "op"))
  | ((with_reducible apply eUn_ev); (walk_at "ev"); rfl)
  | ((with_reducible apply eCB_ev); (walk_at "ar"); (walk_at "bi"))
  | ((with_reducible apply eTup_ev); (walk_at "ar"); (walk_at "le"))
  | ((with_reducible apply eL_ev); (walk_at "ls"))
  | ((with_reducible apply eCall_ev); (walk_at "va"); (walk_at "cl"))
  | ((with_reducible apply eCallK_ev); (walk_at "va"); (walk_at "va"); (walk_at "cl"))
  | ((with_reducible apply eCallD_ev); (walk_at "va"); (walk_at "cl"))
  | ((with_reducible apply eIsN_ev); (walk_at "ev"))
  | ((with_reducible apply eNotN_ev); (walk_at "ev"))
  | ((with_reducible apply eIsi_ev); (walk_at "ev"); (walk_at "ki"))
  | ((with_reducible apply eNot_ev); (walk_at "ev"); rfl)
  | ((with_reducible apply eChain_B); (walk_at "ev"); (walk_at "ev"); (walk_at "op"); (walk_at "ev"); (walk_at "op"))
  | ((with_reducible apply eSl_ev); (walk_at "ev"); (walk_at "os"); (walk_at "os"); rfl)
  | ((with_reducible apply eIxV_ev); rfl; (walk_at "ev"); rfl; (walk_at "at"))
  | ((with_reducible apply eLenV_ev); rfl)
  | ((with_reducible apply eTupleV_ev); rfl)
  | ((with_reducible apply eSlV_ev); rfl; (walk_at "os"); (walk_at "os"); rfl)
  | ((with_reducible apply eInV_ev); (walk_at "ev"); rfl; (walk_at "op"))
  | ((with_reducible apply eDget_ev); rfl; (walk_at "ev"); rfl; with_reducible exact keyO_i; (walk_at "dg"))
  | ((with_reducible apply eDin_ev); (walk_at "ev"); rfl; with_reducible exact keyO_i)
  | ((with_reducible apply eDnot_ev); (walk_at "ev"); rfl; with_reducible exact keyO_i)
  | ((with_reducible apply eLenD_ev); rfl)
  | ((with_reducible apply eIf_D); (walk_at "be"); (first | ((with_reducible apply cd_T); (walk_at "tr"); (walk_at "ev")) | ((with_reducible apply cd_F); (walk_at "tr"); (walk_at "ev"))))
  | ((with_reducible apply eAnd_F); (walk_at "ev"); rfl)
  | ((with_reducible apply eAnd_T); (walk_at "ev"); rfl; (walk_at "ev"))
  | ((with_reducible apply eOr_T); (walk_at "ev"); rfl)
  | ((with_reducible apply eOr_F); (walk_at "ev"); rfl; (walk_at "ev"))
  | ((with_reducible apply eAnd_B); (walk_at "ev"); (intro _; walk_at "ev"))
  | ((with_reducible apply eOr_B); (walk_at "ev"); (intro _; walk_at "ev")))
local macro_rules | `(tactic| walk_at "be") => `(tactic| first
  | with_reducible exact bYes_ev
  | ((with_reducible apply bTest_ev); (walk_at "ev"))
  | ((with_reducible apply bTru_ev); (walk_at "ev"); rfl)
  | ((with_reducible apply bTruV_ev); rfl)
  | ((with_reducible apply bTruD_ev); rfl)
  | ((with_reducible apply bNot_ev); (walk_at "be"))
  | ((with_reducible apply bIf_D); (walk_at "be"); (first | ((with_reducible apply cd_T); (walk_at "tr"); (walk_at "be")) | ((with_reducible apply cd_F); (walk_at "tr"); (walk_at "be"))))
  | ((with_reducible apply bAnd_D); (walk_at "be"); (first | ((with_reducible apply cd_T); (walk_at "tr"); (walk_at "be")) | ((with_reducible apply cd_F); (walk_at "tr"); rfl)))
  | ((with_reducible apply bOr_D); (walk_at "be"); (first | ((with_reducible apply cd_T); (walk_at "tr"); rfl) | ((with_reducible apply cd_F); (walk_at "tr"); (walk_at "be"))))
  | ((with_reducible apply bAnd_B); (walk_at "be"); (intro _; walk_at "be"))
  | ((with_reducible apply bOr_B); (walk_at "be"); (intro _; walk_at "be")))
local macro_rules | `(tactic| walk_at "ex") => `(tactic| first
  | with_reducible exact xNext_ev | with_reducible exact xBreak_ev | with_reducible exact xCont_ev
  | ((with_reducible apply xAsg_ev); (walk_at "ev"))
  | ((with_reducible apply xAsgG_ev); (walk_at "ev"); rfl)
  | ((with_reducible apply xAsgL_ev); (walk_at "ls"))
  | ((with_reducible apply xNewL_ev); (walk_at "ls"))
  | ((with_reducible apply xAug_ev); rfl; (walk_at "ev"); (walk_at "op"))
  | ((with_reducible apply xDrop_ev); (walk_at "ev"))
  | ((with_reducible apply xRet_ev); (walk_at "ev"))
  | ((with_reducible apply xApp_ev); rfl; (walk_at "ev"); rfl; (walk_at "le"))
  | ((with_reducible apply xSetI_ev); (walk_at "ev"); rfl; (walk_at "ev"); rfl; exact ixN_in (by walk_at "le"))
  | ((with_reducible apply xPar_ev); (walk_at "ev"); (walk_at "ev"))
  | ((with_reducible apply xParDL_ev); (walk_at "ev"); (walk_at "ls"))
  | ((with_reducible apply xParLD_ev); (walk_at "ls"); (walk_at "ev"))
  | ((with_reducible apply xParLL_ev); (walk_at "ls"); (walk_at "ls"))
  | ((with_reducible apply xPar3_ev); (walk_at "ar"))
  | ((with_reducible apply xDput_ev); (walk_at "ev"); rfl; (walk_at "ev"); rfl; with_reducible exact keyO_i; (walk_at "le"))
  | ((with_reducible apply xDpop_ev); rfl; (walk_at "ev"); rfl; with_reducible exact keyO_i; (walk_at "dg"))
  | ((with_reducible apply xAsgC_ev); (walk_at "dl"))
  | ((with_reducible apply xTup2_ev); (walk_at "nt"))
  | ((with_reducible apply xFrz_O); rfl; (walk_at "ex"))
  | ((with_reducible apply xFrz_D); rfl; (walk_at "ex"))
  | ((with_reducible apply xIf_D); (walk_at "be"); (first | ((with_reducible apply cd_T); (walk_at "tr"); (walk_at "ex")) | ((with_reducible apply cd_F); (walk_at "tr"); (walk_at "ex"))))
  | ((with_reducible apply xSeq_ev); (walk_at "ex"); (walk_at "ex")))
local macro_rules | `(tactic| walk_at "st") => `(tactic| ((first | refine rt_seq (by walk_at "ex") ?_ | refine seq_step (by walk_at "ex") ?_); try simp only [List.set_cons_succ, List.set_cons_zero]))
local macro_rules | `(tactic| walk_at "rt") => `(tactic| refine rt_is (rt_ret (by walk_at "ev")) ?_ ?_)
local macro_rules | `(tactic| walk_at "yes") => `(tactic| (first | refine rt_now (rt_T (by walk_at "be") (by walk_at "tr") ?_) | refine rt_T (by walk_at "be") (by walk_at "tr") ?_))
local macro_rules | `(tactic| walk_at "noo") => `(tactic| (first | refine rt_now (rt_F (by walk_at "be") (by walk_at "tr") ?_) | refine rt_F (by walk_at "be") (by walk_at "tr") ?_))
local macro_rules | `(tactic| walk_at "cq") => `(tactic| with_reducible assumption)
local macro_rules | `(tactic| walk_at "le") => `(tactic| first | omega | (simp only [List.length_cons, List.length_nil, List.length_append, List.length_map, List.length_set, List.length_range, nD_len]; omega) | decide)
local macro_rules | `(tactic| walk_at "sr") => `(tactic| repeat (first | with_reducible exact SetR.z | with_reducible apply SetR.s))
local macro_rules | `(tactic| walk_at "ha") => `(tactic| first | walk_at "op" | walk_at "at" | walk_at "bi" | walk_at "dg" | with_reducible rfl | rfl)
local macro_rules | `(tactic| walk_at "v") => `(tactic| first
  | with_reducible refine wp_seq ?_
  | with_reducible refine seqK_nx ?_
  | ((with_reducible apply wp_eVar); (rfl))
  | with_reducible refine wp_eC ?_
  | with_reducible refine wp_eOp ?_
  | with_reducible refine has_some ?_
  | ((with_reducible apply hasG_nm); (walk_at "sr"))
  | ((with_reducible apply hasG_tp); (rfl); (rfl))
  | with_reducible refine hasG_cons ?_
  | with_reducible refine hasG_nil ?_
  | ((with_reducible apply has_of); (walk_at "ha"))
  | with_reducible refine wp_eCall ?_
  | with_reducible refine wp_vE ?_
  | ((with_reducible apply wp_vR); (rfl))
  | with_reducible refine wp_vNil ?_
  | ((with_reducible apply fok_eq); (walk_at "cq"))
  | with_reducible refine wp_asg ?_
  | with_reducible refine wp_asgG ?_
  | with_reducible refine wp_asgL ?_
  | with_reducible refine wp_if ?_
  | with_reducible refine wp_ret ?_
  | with_reducible refine seqK_ret ?_
  | with_reducible refine retK_ret ?_
  | with_reducible refine wp_bTest ?_
  | with_reducible refine wp_bTru ?_
  | with_reducible refine wp_bNot ?_
  | with_reducible refine wp_eCB ?_
  | with_reducible refine wp_aCons ?_
  | with_reducible refine wp_aNil ?_
  | with_reducible refine wp_eUn ?_
  | with_reducible refine wp_eTup ?_
  | with_reducible refine wp_eL ?_
  | with_reducible refine wp_lLst ?_
  | with_reducible refine wp_eIf ?_
  | with_reducible refine wp_for ?_
  | with_reducible refine wp_iWipe ?_
  | with_reducible refine wp_iSq ?_
  | with_reducible refine wp_iRg1 ?_
  | with_reducible refine wp_iRg2 ?_
  | with_reducible refine wp_keep ?_
  | with_reducible refine wp_pre ?_
  | with_reducible refine wp_next ?_
  | with_reducible refine wp_break ?_
  | with_reducible refine wp_cont ?_
  | with_reducible refine bodyK_nx ?_
  | with_reducible refine bodyK_ct ?_
  | with_reducible refine bodyK_bk ?_
  | with_reducible refine bodyK_ret ?_
  | with_reducible refine seqK_bk ?_
  | with_reducible refine seqK_ct ?_
  | with_reducible refine retK_nx ?_
  | with_reducible refine wp_forNil ?_
  | with_reducible refine wp_eIsN ?_
  | with_reducible refine wp_eNotN ?_
  | with_reducible refine wp_eNot ?_
  | ((with_reducible apply wp_eIxV); (rfl))
  | ((with_reducible apply wp_eLenV); (rfl))
  | ((with_reducible apply wp_eTupleV); (rfl))
  | ((with_reducible apply wp_eSlV); (rfl))
  | with_reducible refine wp_eSl ?_
  | with_reducible refine wp_oNone ?_
  | with_reducible refine wp_oSome ?_
  | with_reducible refine wp_eInV ?_
  | ((with_reducible apply wp_ePopO); (rfl); (walk_at "gt"); (walk_at "sr"))
  | ((with_reducible apply wp_eDget); (exact ⟨_, rfl⟩))
  | ((with_reducible apply wp_eDget2); (exact ⟨_, rfl⟩))
  | with_reducible refine wp_eDin ?_
  | with_reducible refine wp_eDnot ?_
  | ((with_reducible apply wp_eLenD); (rfl))
  | with_reducible refine wp_eIsi ?_
  | with_reducible refine wp_eCallK ?_
  | with_reducible refine wp_eCallD ?_
  | with_reducible refine wp_lList ?_
  | with_reducible refine wp_lListRg ?_
  | with_reducible refine wp_lListRg2 ?_
  | with_reducible refine wp_iEn ?_
  | with_reducible refine wp_lRep ?_
  | ((with_reducible apply wp_lListV); (rfl))
  | ((with_reducible apply wp_lKeys); (rfl))
  | with_reducible refine wp_lLc ?_
  | with_reducible refine wp_bYes ?_
  | ((with_reducible apply wp_bTruV); (rfl))
  | ((with_reducible apply wp_bTruD); (rfl))
  | with_reducible refine wp_bIf ?_
  | with_reducible refine wp_lDnew ?_
  | with_reducible refine wp_lDc ?_
  | with_reducible refine wp_asgC ?_
  | with_reducible refine wp_newL ?_
  | with_reducible refine wp_retN ?_
  | with_reducible refine wp_drop ?_
  | ((with_reducible apply wp_app); (exact ⟨_, rfl⟩))
  | with_reducible refine wp_setI ?_
  | ((with_reducible apply wp_aug); (rfl))
  | ((with_reducible apply wp_frzO); (rfl); (walk_at "sr"))
  | ((with_reducible apply wp_frzD); (rfl))
  | with_reducible refine wp_par ?_
  | with_reducible refine wp_parDL ?_
  | with_reducible refine wp_parLD ?_
  | with_reducible refine wp_parLL ?_
  | with_reducible refine wp_par3 ?_
  | with_reducible refine wp_dput ?_
  | ((with_reducible apply wp_dpop); (exact ⟨_, rfl⟩))
  | with_reducible refine wp_tup2 ?_
  | with_reducible refine wp_tup3 ?_
  | with_reducible refine wp_tup4 ?_
  | with_reducible refine wp_uNil ?_
  | with_reducible refine wp_uD ?_
  | with_reducible refine wp_uL ?_
  | with_reducible refine wp_uC ?_
  | with_reducible refine wp_eChain ?_
  | (with_reducible refine wp_bAnd ?_; (repeat walk_at "v"); walk_at "br")
  | (with_reducible refine wp_bOr ?_; (repeat walk_at "v"); walk_at "br")
  | (with_reducible refine wp_eAnd ?_; (repeat walk_at "v"); walk_at "br")
  | (with_reducible refine wp_eOr ?_; (repeat walk_at "v"); walk_at "br")
  | with_reducible refine wp_bAndB ?_
  | with_reducible refine wp_bOrB ?_
  | with_reducible refine wp_eAndB ?_
  | with_reducible refine wp_eOrB ?_
  | walk_at "xx")
local macro_rules | `(tactic| walk_at "nk") => `(tactic| ((repeat walk_at "v"); first | exact ⟨rfl, rfl, rfl⟩ | exact ⟨rfl, rfl, by walk_at "op"⟩))
local macro_rules | `(tactic| walk_at "lt2") => `(tactic| first | omega | exact ⟨by omega, by omega⟩ | (simp only [List.length_cons, List.length_nil, List.length_append, List.length_map, List.length_set, nD_len]; omega))
local macro_rules | `(tactic| walk_at "ky") => `(tactic| first | with_reducible exact keyO_i | with_reducible exact keyO_s | rfl)
local macro_rules | `(tactic| walk_at "xx") => `(tactic| first
  | refine ⟨_, by walk_at "sr", ?_⟩
  | refine ⟨_, by with_reducible rfl, by omega, ?_⟩
  | refine ⟨_, by with_reducible rfl, by omega, by walk_at "le", ?_⟩
  | refine ⟨_, by with_reducible rfl, ?_⟩
  | ((with_reducible apply and_le); (walk_at "le"))
  | ((with_reducible apply and_bk); (rfl))
  | refine ⟨_, _, by rfl, by with_reducible rfl, ?_⟩
  | refine ⟨_, _, by rfl, by walk_at "ky", ?_⟩
  | refine ⟨_, _, by rfl, by walk_at "le", by walk_at "sr", ?_⟩
  | refine ⟨⟨_, by rfl⟩, ?_⟩
  | refine ⟨_, _, _, by with_reducible rfl, by rfl, by walk_at "lt2", by walk_at "sr", ?_⟩
  | refine ⟨_, _, _, by rfl, by walk_at "ky", by walk_at "lt2", by walk_at "sr", ?_⟩
  | refine ⟨_, _, _, by rfl, by walk_at "ky", by walk_at "gt", by walk_at "sr", ?_⟩
  | refine ⟨_, _, by walk_at "sr", by walk_at "sr", ?_⟩
  | refine ⟨_, _, _, _, by rfl, by walk_at "sr", by walk_at "sr", ?_⟩
  | refine ⟨_, _, _, _, _, _, by rfl, by walk_at "sr", by walk_at "sr", by walk_at "sr", ?_⟩
  | refine ⟨_, _, _, _, _, _, _, _, by rfl, by walk_at "sr", by walk_at "sr", by walk_at "sr", by walk_at "sr", ?_⟩
  | refine ⟨_, by walk_at "ki", ?_⟩
  | refine ⟨_, _, by with_reducible rfl, by with_reducible rfl, ?_⟩
  | refine ⟨_, _, by with_reducible rfl, by with_reducible rfl, by omega, by omega, ?_⟩
  | refine ⟨_, _, by walk_at "op", (fun _ => by walk_at "nk"), ?_⟩
  | refine ⟨_, _, by with_reducible rfl, (fun _ => by walk_at "nk"), ?_⟩
  | refine ⟨_, (fun _ => by walk_at "nk"), ?_⟩
  | refine ⟨_, by rfl, ?_⟩)
local macro_rules | `(tactic| walk_at "br") => `(tactic| first | ((with_reducible apply br_T); (walk_at "tr")) | ((with_reducible apply br_F); (walk_at "tr")))
local macro_rules | `(tactic| walk_at "vfn") => `(tactic| refine fok_fn (by (simp only [List.length_cons, List.length_nil, Nat.reduceAdd, Nat.reduceSub, List.replicate_succ, List.replicate_zero, List.cons_append, List.nil_append]; try rfl)) ?_)
local macro_rules | `(tactic| walk_at "vc") => `(tactic| repeat (first | walk_at "v" | walk_at "br" | with_reducible exact ⟨rfl, rfl, rfl⟩ | with_reducible exact ⟨rfl, rfl⟩))
local macro_rules | `(tactic| walk_at "wi") => `(tactic| (simp only [wipeV, List.set_cons_succ, List.set_cons_zero]; try rfl))
local macro_rules | `(tactic| walk_at "op") => `(tactic| ((with_reducible apply ixD_g); assumption))
local macro_rules | `(tactic| walk_at "bi") => `(tactic| with_reducible exact lenD_g)
local macro_rules | `(tactic| walk_at "bi") => `(tactic| with_reducible exact lenD_n)
local macro_rules | `(tactic| walk_at "cl") => `(tactic| ((with_reducible apply draw_eq) <;> first | omega | assumption))
local macro_rules | `(tactic| walk_at "cl") => `(tactic| ((with_reducible apply dworth_eq) <;> first | omega | assumption))
/-! ### straight games -/
theorem mixR (ns : List Int) (n i : Nat) (g : Sg) (hn : n + i < 90000) (hi : i ≤ 1000) (hz : ns.length ≤ 63) : ∃ es : List Nat, f_l_mixed [scr ns, .ref 0, .dat (.list (rng 0 i))] (tw ns n g) = some (.dat (.list (nD es)), tw ns (n + i) g) ∧ es.Perm (List.range i) := by
  have h := mixed_eq ns n (rng 0 i) g (by rw [rng_len]; exact hn) (by rw [rng_len]; exact hi) hz
  have hp := mxL_perm ns _ n (rng 0 i) rfl
  rw [rng_len] at h hp
  rw [rng_nat] at hp
  obtain ⟨es, e, p⟩ := nD_perm hp
  rw [rng_nat] at h ⊢
  rw [e] at h
  exact ⟨es, h, p⟩
def b_l_straight_1 (F_l_draw F_l_mixed F_l_drawn_worth : FS) : X :=
  (xSeq (xAsg 5 (eSl (eCall F_l_mixed (vCons (vE (eVar 0)) (vCons (vR 1) (vCons (vE (eL (lListRg (eVar 4)))) vNil)))) oNone (oSome (eOp plusD (eC (.int 1)) (eCall F_l_draw (vCons (vE (eVar 0)) (vCons (vR 1) (vCons (vE (eC (.int 3))) vNil))))))))
    (xIf (bOr (bTest (eOp ltD (eVar 4) (eC (.int 2)))) (bTest (eOp eqD (eCall F_l_draw (vCons (vE (eVar 0)) (vCons (vR 1) (vCons (vE (eC (.int 6))) vNil)))) (eC (.int 0)))))
      (xApp 3 (eTup (aCons (eC (.str "end")) (aCons (eCall F_l_drawn_worth (vCons (vE (eVar 0)) (vCons (vR 1) vNil))) aNil))))
      (xApp 3 (eTup (aCons (eCall F_l_draw (vCons (vE (eVar 0)) (vCons (vR 1) (vCons (vE (eC (.int 2))) vNil)))) (aCons (eCB tupleD (aCons (eVar 5) aNil)) aNil))))))
def b_l_straight_2 (F_l_draw F_l_mixed F_l_drawn_worth : FS) : X :=
  (xSetI 7 (eOp ixD (eVar 6) (eVar 4)) (eIf (bTest (eOp eqD (eVar 8) (eC (.str "end")))) (eTup (aCons (eVar 8) (aCons (eVar 9) aNil))) (eTup (aCons (eVar 8) (aCons (eCB tupleD (aCons (eL (lLc [10] (iSq (eVar 9)) (gNm 10) bYes (eOp ixD (eVar 6) (eVar 10)))) aNil)) aNil)))))
def m_l_straight (F_l_draw F_l_mixed F_l_drawn_worth : FS) : X :=
  (xSeq (xAsgL 3 (lLst aNil))
  (xSeq (xFor (iRg1 (eVar 2)) (gNm 4)
    (b_l_straight_1 F_l_draw F_l_mixed F_l_drawn_worth))
  (xSeq (xAsg 6 (eCall F_l_mixed (vCons (vE (eVar 0)) (vCons (vR 1) (vCons (vE (eL (lListRg (eVar 2)))) vNil)))))
  (xSeq (xAsgL 7 (lRep (aCons (eC .none) aNil) (eVar 2)))
  (xSeq (xFrz 3 (xFor (iEn (eVar 3)) (gTp 2 (gsCons (gNm 4) (gsCons (gTp 2 (gsCons (gNm 8) (gsCons (gNm 9) gsNil))) gsNil)))
    (b_l_straight_2 F_l_draw F_l_mixed F_l_drawn_worth)))
  (xRet (eTupleV 7)))))))
def f_l_straight : FS := fnS 11 (m_l_straight f_l_draw f_l_mixed f_l_drawn_worth)

def stL (ns : List Int) (m : Nat) (rs : List Pl) (w4 w5 : Vl) : Lo := [scr ns, .ref 0, .dat (.int m), .own (rs.map Pl.d), w4, w5, .no, .no, .no, .no, .no]
theorem st_body (ns : List Int) (m i k : Nat) (g : Sg) (rs : List Pl) (w5 : Vl) (hz : ns.length ≤ 63) (hm : m ≤ 12) (hi : i < m) (hl : rs.length = i) (hok : ∀ (j : Nat) (p : Pl), rs[j]? = some p → PlOk j p) (hk : k < 80000) :
    ∃ p w5' k', b_l_straight_1 f_l_draw f_l_mixed f_l_drawn_worth (stL ns m rs (.dat (.int (i : Int))) w5) (tw ns k g) = some (.nx, stL ns m (rs ++ [p]) (.dat (.int (i : Int))) w5', tw ns k' g) ∧ PlOk i p ∧ k ≤ k' ∧ k' ≤ k + 16 := by
  obtain ⟨es, hmx, hes⟩ := mixR ns k (i : Int).toNat g (by omega) (by omega) hz
  rw [Int.toNat_natCast] at hes
  obtain ⟨r, hr, hr3⟩ := drN_nat ns (k + (i : Int).toNat) (m := 3) (by omega)
  have hr' : drN ns (k + (i : Int).toNat) % 3 = (r : Int) := hr
  have hd3 := draw_eq ns (k + (i : Int).toNat) 3 g (by omega) (by omega) hz
  rw [hr'] at hd3
  have hcut : slD (.list (nD es)) none (some (1 + (r : Int))) = some (.list (nD (es.take (r + 1)))) := by
    show some (PyData.list (cutD (nD es) none (some (1 + (r : Int))))) = _
    rw [show (1 + (r : Int)) = ((r + 1 : Nat) : Int) by omega, cutD_take, nD_take]
  have h1 : xAsg 5 (eSl (eCall f_l_mixed (vCons (vE (eVar 0)) (vCons (vR 1) (vCons (vE (eL (lListRg (eVar 4)))) vNil)))) oNone (oSome (eOp plusD (eC (.int 1)) (eCall f_l_draw (vCons (vE (eVar 0)) (vCons (vR 1) (vCons (vE (eC (.int 3))) vNil))))))) (stL ns m rs (.dat (.int (i : Int))) w5) (tw ns k g) = some (.nx, stL ns m rs (.dat (.int (i : Int))) (.dat (.list (nD (es.take (r + 1))))), tw ns (k + i + 1) g) := by
    refine Eq.trans (xAsg_ev (eSl_ev (eCall_ev (by walk_at "va") hmx) oNone_ev (oSome_ev (eOp_ev eC_ev (eCall_ev (by walk_at "va") hd3) plusD_ii)) hcut)) ?_
    rw [Int.toNat_natCast]
    rfl
  generalize hms : es.take (r + 1) = ms at h1
  have hmm : ∀ x ∈ ms, x < i := fun y hy => by
    rw [← hms] at hy
    exact List.mem_range.mp (hes.mem_iff.mp (List.mem_of_mem_take hy))
  have hmn : ms.Nodup := by
    rw [← hms]
    exact (List.take_sublist _ _).nodup (hes.nodup_iff.mpr List.nodup_range)
  have hml : ms.length ≤ 3 := by
    rw [← hms, List.length_take]
    omega
  have hmne : 1 ≤ i → ms ≠ [] := fun h1 z => by
    have e1 : ms.length = min (r + 1) i := by rw [← hms, List.length_take, hes.length_eq, List.length_range]
    rw [z] at e1
    simp at e1
    omega
  have happ : ∀ p : Pl, rs.map Pl.d ++ [p.d] = (rs ++ [p]).map Pl.d := fun p => by simp
  have hlr : (rs.map Pl.d).length < 100000 := by rw [List.length_map]; omega
  have hd6 := draw_eq ns (k + i + 1) 6 g (by omega) (by omega) hz
  by_cases h2 : i < 2
  · refine ⟨.fin (dwI ns (k + i + 1)), .dat (.list (nD ms)), k + i + 1 + 3, ?_, (dwI_ok ns (k + i + 1)).2, by omega, by omega⟩
    refine seq_step h1 ?_
    refine Eq.trans (xIf_T (bOr_T (by walk_at "be") (decide_eq_true (by omega))) rfl (xApp_ev rfl (by walk_at "ev") rfl hlr)) ?_
    show some (Out.nx, [scr ns, .ref 0, .dat (.int m), .own (rs.map Pl.d ++ [(Pl.fin (dwI ns (k + i + 1))).d]), _, _, _, _, _, _, _], _) = _
    rw [happ]
    rfl
  · by_cases h6 : drN ns (k + i + 1) % 6 = 0
    · refine ⟨.fin (dwI ns (k + i + 2)), .dat (.list (nD ms)), k + i + 2 + 3, ?_, (dwI_ok ns (k + i + 2)).2, by omega, by omega⟩
      refine seq_step h1 ?_
      refine Eq.trans (xIf_T (bOr_F (by walk_at "be") (decide_eq_false (by omega)) (by walk_at "be")) (decide_eq_true h6) (xApp_ev rfl (by walk_at "ev") rfl hlr)) ?_
      show some (Out.nx, [scr ns, .ref 0, .dat (.int m), .own (rs.map Pl.d ++ [(Pl.fin (dwI ns (k + i + 2))).d]), _, _, _, _, _, _, _], _) = _
      rw [happ]
      rfl
    · obtain ⟨s, hs, hs2⟩ := drN_nat ns (k + i + 1 + 1) (m := 2) (by omega)
      have hs' : drN ns (k + i + 1 + 1) % 2 = (s : Int) := hs
      have hd2 := draw_eq ns (k + i + 1 + 1) 2 g (by omega) (by omega) hz
      rw [hs'] at hd2
      refine ⟨.mv (s : Int) ms, .dat (.list (nD ms)), k + i + 3, ?_, ⟨by omega, hmne (by omega), hmn, hmm, hml⟩, by omega, by omega⟩
      refine seq_step h1 ?_
      refine Eq.trans (xIf_F (bOr_F (by walk_at "be") (decide_eq_false (by omega)) (by walk_at "be")) (decide_eq_false h6) (xApp_ev rfl (eTup_ev (aCons_ev (eCall_ev (by walk_at "va") hd2) (by walk_at "ar")) (by simp)) rfl hlr)) ?_
      show some (Out.nx, [scr ns, .ref 0, .dat (.int m), .own (rs.map Pl.d ++ [(Pl.mv (s : Int) ms).d]), _, _, _, _, _, _, _], _) = _
      rw [happ]
      rfl
def st2 (ns : List Int) (m : Nat) (rs : List Pl) (es : List Nat) (x : List PyData) (w4 w5 w8 w9 : Vl) : Lo := [scr ns, .ref 0, .dat (.int m), .dat (.list (rs.map Pl.d)), w4, w5, .dat (.list (nD es)), .own x, w8, w9, .no]
theorem straight_eq (ns : List Int) (n m : Nat) (g : Sg) (hz : ns.length ≤ 63) (h1 : 1 ≤ m) (hm : m ≤ 12) (hn : n < 70000) :
    ∃ gm n', f_l_straight [scr ns, .ref 0, .dat (.int (m : Int))] (tw ns n g) = some (.dat (gD gm), tw ns n' g) ∧ gm.length = m ∧ Good gm ∧ Straight gm ∧ n ≤ n' ∧ n' ≤ n + 300 := by
  -- the rows
  have loop1 := xForL_inv (G := gNm 4) (x := b_l_straight_1 f_l_draw f_l_mixed f_l_drawn_worth) (ds := rng 0 (m : Int).toNat) (l := stL ns m [] .no .no) (g := tw ns n g)
    (fun i l g' => ∃ rs w4 w5 k, l = stL ns m rs w4 w5 ∧ g' = tw ns k g ∧ rs.length = i ∧ (∀ (j : Nat) (p : Pl), rs[j]? = some p → PlOk j p) ∧ n ≤ k ∧ k ≤ n + 16 * i) ⟨[], .no, .no, n, rfl, rfl, rfl, fun j p e => by simp at e, by omega, by omega⟩ (by
    rintro i d l g' hd ⟨rs, w4, w5, k, rfl, rfl, hl, hok, hk1, hk2⟩
    obtain ⟨hi, rfl⟩ := rng_get hd
    rw [Int.toNat_natCast] at hi
    obtain ⟨p, w5', k', e1, e2, e3, e4⟩ := st_body ns m i k g rs w5 hz hm hi hl hok (by omega)
    refine ⟨stL ns m rs (.dat (.int (i : Int))) w5, _, _, by rw [Int.zero_add]; rfl, .inl e1, rs ++ [p], _, w5', k', rfl, rfl, by simp [hl], fun j q e => ?_, by omega, by omega⟩
    rw [List.getElem?_append] at e
    split at e
    · exact hok j q e
    · rename_i hj
      rw [List.getElem?_singleton] at e
      split at e
      · cases e
        have : j = i := by omega
        subst this
        exact e2
      · cases e)
  obtain ⟨l1, g1, e1, rs, w4, w5, k, rfl, rfl, hl, hok, hk1, hk2⟩ := loop1
  rw [rng_len, Int.toNat_natCast] at hl hk2
  obtain ⟨es, hmx, hes⟩ := mixR ns k (m : Int).toNat g (by omega) (by omega) hz
  rw [Int.toNat_natCast] at hes
  have hes' : es.Perm (List.range rs.length) := by rw [hl]; exact hes
  have hel : es.length = m := by rw [hes.length_eq, List.length_range]
  -- the places by their new numbers
  have loop2 := xForL_inv (G := (gTp 2 (gsCons (gNm 4) (gsCons (gTp 2 (gsCons (gNm 8) (gsCons (gNm 9) gsNil))) gsNil)))) (x := b_l_straight_2 f_l_draw f_l_mixed f_l_drawn_worth) (ds := enumD (rs.map Pl.d)) (l := st2 ns m rs es (List.replicate m .none) w4 w5 .no .no) (g := tw ns (k + m) g)
    (fun i l g' => ∃ x w4 w8 w9, l = st2 ns m rs es x w4 w5 w8 w9 ∧ g' = tw ns (k + m) g ∧ x.length = m ∧ ∀ (j : Nat) (p : Pl) (e : Nat), j < i → rs[j]? = some p → es[j]? = some e → x[e]? = some (ren es p).d) ⟨_, w4, .no, .no, rfl, rfl, by simp, fun j p e hj => absurd hj (Nat.not_lt_zero _)⟩ (by
    rintro i d l g' hd ⟨x, w4, w8, w9, rfl, rfl, hx1, hx2⟩
    obtain ⟨e, he, rfl⟩ := enumD_get hd
    rw [List.getElem?_map] at he
    obtain ⟨p, hp, rfl⟩ : ∃ p, rs[i]? = some p ∧ e = p.d := by
      cases hq : rs[i]? with
      | none => rw [hq] at he; cases he
      | some p => rw [hq] at he; exact ⟨p, rfl, (Option.some.inj he).symm⟩
    have hi : i < rs.length := (List.getElem?_eq_some_iff.mp hp).1
    have hee : es[i]? = some (es.getD i 0) := by rw [getD_lt (by omega), List.getElem?_eq_getElem (by omega)]
    have helt : es.getD i 0 < m := by
      have := es_lt hes' hi
      omega
    have hix : (nD es)[i]? = some (.int ((es.getD i 0 : Nat) : Int)) := nD_get hee
    have hset : ixN x.length ((es.getD i 0 : Nat) : Int) = some (es.getD i 0) := by
      rw [ixN_in (by omega), Int.toNat_natCast]
    have fin : ∀ (d : PyData), d = (ren es p).d → ∀ (j : Nat) (p' : Pl) (e : Nat), j < i + 1 → rs[j]? = some p' → es[j]? = some e → (x.set (es.getD i 0) d)[e]? = some (ren es p').d := by
      rintro _ rfl j p' e hj hp' he'
      by_cases hji : j = i
      · subst hji
        rw [hp] at hp'
        rw [hee] at he'
        cases hp'
        cases he'
        rw [List.getElem?_set_self (by omega)]
      · have hne : es.getD i 0 ≠ e := fun z => by
          have e1 := es_of hes' hi
          have hjl : j < es.length := (List.getElem?_eq_some_iff.mp he').1
          have e2 := es_of hes' (show j < rs.length by omega)
          rw [getD_lt hjl] at e2
          have e3 : es[j] = e := by rw [List.getElem?_eq_getElem hjl] at he'; exact Option.some.inj he'
          rw [z] at e1
          rw [e3, e1] at e2
          exact hji e2.symm
        rw [List.getElem?_set_ne hne]
        exact hx2 j p' e (by omega) hp' he'
    cases p with
    | fin w =>
      have hb : xSetI 7 (eOp ixD (eVar 6) (eVar 4)) (eIf (bTest (eOp eqD (eVar 8) (eC (.str "end")))) (eTup (aCons (eVar 8) (aCons (eVar 9) aNil))) (eTup (aCons (eVar 8) (aCons (eCB tupleD (aCons (eL (lLc [10] (iSq (eVar 9)) (gNm 10) bYes (eOp ixD (eVar 6) (eVar 10)))) aNil)) aNil)))) (st2 ns m rs es x (.dat (.int (i : Nat))) w5 (.dat (.str "end")) (.dat (.int w))) (tw ns (k + m) g) = some (.nx, st2 ns m rs es (x.set (es.getD i 0) (ren es (.fin w)).d) (.dat (.int (i : Nat))) w5 (.dat (.str "end")) (.dat (.int w)), tw ns (k + m) g) := by
        refine Eq.trans (by walk_at "ex") ?_
        rfl
      exact ⟨st2 ns m rs es x (.dat (.int (i : Nat))) w5 (.dat (.str "end")) (.dat (.int w)), _, _, rfl, .inl hb, _, _, _, _, rfl, rfl, by rw [List.length_set]; exact hx1, fin _ rfl⟩
    | mv sd ms =>
      obtain ⟨q1, q2, q3, q4, q5⟩ := hok i _ hp
      have hlc : lcO [10] (gNm 10) bYes (eOp ixD (eVar 6) (eVar 10)) (nD ms) (st2 ns m rs es x (.dat (.int (i : Nat))) w5 (.dat (.int sd)) (.dat (.tuple (nD ms)))) (tw ns (k + m) g) = some (nD (ms.map fun m => es.getD m 0), st2 ns m rs es x (.dat (.int (i : Nat))) w5 (.dat (.int sd)) (.dat (.tuple (nD ms))), tw ns (k + m) g) := by
        unfold nD
        rw [List.map_map]
        refine lcO_map rfl (by omega) fun y hy => ?_
        have := q4 y hy
        have hg : (nD es)[y]? = some (.int ((es.getD y 0 : Nat) : Int)) := nD_get (by rw [getD_lt (by omega), List.getElem?_eq_getElem (by omega)])
        exact eOp_ev (eVar_ev rfl) (eVar_ev rfl) (ixD_lN hg)
      have hb : xSetI 7 (eOp ixD (eVar 6) (eVar 4)) (eIf (bTest (eOp eqD (eVar 8) (eC (.str "end")))) (eTup (aCons (eVar 8) (aCons (eVar 9) aNil))) (eTup (aCons (eVar 8) (aCons (eCB tupleD (aCons (eL (lLc [10] (iSq (eVar 9)) (gNm 10) bYes (eOp ixD (eVar 6) (eVar 10)))) aNil)) aNil)))) (st2 ns m rs es x (.dat (.int (i : Nat))) w5 (.dat (.int sd)) (.dat (.tuple (nD ms)))) (tw ns (k + m) g) = some (.nx, st2 ns m rs es (x.set (es.getD i 0) (ren es (.mv sd ms)).d) (.dat (.int (i : Nat))) w5 (.dat (.int sd)) (.dat (.tuple (nD ms))), tw ns (k + m) g) := by
        refine Eq.trans (by walk_at "ex") ?_
        rfl
      exact ⟨st2 ns m rs es x (.dat (.int (i : Nat))) w5 (.dat (.int sd)) (.dat (.tuple (nD ms))), _, _, rfl, .inl hb, _, _, _, _, rfl, rfl, by rw [List.length_set]; exact hx1, fin _ rfl⟩)
  obtain ⟨l2, g2, e2, x, w4', w8, w9, rfl, rfl, hx1, hx2⟩ := loop2
  rw [enumD_len, List.length_map] at hx2
  have ex := renG_is hes' (by omega) hx2
  refine ⟨renG es rs, k + m, ?_, by rw [renG_len]; exact hl, renG_good hes' hok (by omega), renG_straight hes' hok, by omega, by omega⟩
  unfold f_l_straight m_l_straight
  refine fn_ret (l := [scr ns, .ref 0, .dat (.int (m : Int)), .no, .no, .no, .no, .no, .no, .no, .no]) rfl ?_
  walk_at "st"
  refine rt_seq (xFor_ev (iRg1_ev (eVar_ev rfl) (by omega)) e1) ?_
  refine rt_seq (xAsg_ev (eCall_ev (by walk_at "va") hmx)) ?_
  refine rt_seq (xAsgL_ev (lRep_ev (by walk_at "ar") (eVar_ev rfl) (by omega) (by simp))) ?_
  have hrep : (List.replicate (m : Int).toNat [PyData.none]).flatten = List.replicate m .none := by simp
  rw [hrep, Int.toNat_natCast]
  refine rt_seq (xFrz_O rfl (xFor_ev (iEn_ev (eVar_ev rfl)) e2)) ?_
  refine rt_is (rt_ret (eTupleV_ev rfl)) ?_ ?_
  · rw [ex]; rfl
  · rfl

end
section
local macro_rules | `(tactic| walk_at "tr") => `(tactic| first | rfl | exact decide_eq_true (by omega) | exact decide_eq_false (by omega) | with_reducible assumption | (simp only [Bool.and_eq_true, Bool.and_eq_false_iff, Bool.or_eq_true, Bool.or_eq_false_iff, Bool.not_eq_true', Bool.not_eq_false', decide_eq_true_eq, decide_eq_false_iff_not]; omega) | (simp; done))
local macro_rules | `(tactic| walk_at "le") => `(tactic| first | omega | (simp only [List.length_cons, List.length_nil, List.length_append, List.length_map]; omega) | decide)
local macro_rules | `(tactic| walk_at "gt") => `(tactic| first | with_reducible assumption | with_reducible rfl | rfl)
local macro_rules | `(tactic| walk_at "op") => `(tactic| first
  | with_reducible exact plusD_ii | with_reducible exact subD_ii | with_reducible exact addI_ii | with_reducible exact ltD_ii | with_reducible exact leD_ii | with_reducible exact gtD_ii | with_reducible exact geD_ii
  | with_reducible exact eqD_ii | with_reducible exact eqD_ss | with_reducible exact eqD_is | with_reducible exact eqD_si | with_reducible exact eqD_bb | with_reducible exact neD_ii | with_reducible exact neD_ss | with_reducible exact neD_is | with_reducible exact neD_si | with_reducible exact neD_bb
  | with_reducible assumption
  | ((with_reducible apply modD_ev); omega) | ((with_reducible apply fdivD_ev); omega) | ((with_reducible apply mulD_ev); (first | exact Or.inl ⟨by omega, by omega⟩ | exact Or.inr ⟨by omega, by omega⟩))
  | ((with_reducible apply ixD_t0); walk_at "gt") | ((with_reducible apply ixD_l0); walk_at "gt") | ((with_reducible apply ixD_t1); walk_at "gt") | ((with_reducible apply ixD_l1); walk_at "gt")
  | ((with_reducible apply ixD_last); walk_at "gt") | ((with_reducible apply ixD_lastL); walk_at "gt")
  | ((with_reducible apply ixD_tN); walk_at "gt") | ((with_reducible apply ixD_lN); walk_at "gt")
  | ((with_reducible apply ixD_t); omega; walk_at "gt") | ((with_reducible apply ixD_l); omega; walk_at "gt")
  | ((with_reducible apply plusD_l); walk_at "le") | ((with_reducible apply plusD_t); walk_at "le"))
local macro_rules | `(tactic| walk_at "at") => `(tactic| first | with_reducible assumption | ((with_reducible apply atI_z); walk_at "gt") | ((with_reducible apply atI_last); walk_at "gt") | ((with_reducible apply atI_N); walk_at "gt") | ((with_reducible apply atI_i); omega; walk_at "gt") | ((with_reducible apply atI_last); walk_at "gt"))
local macro_rules | `(tactic| walk_at "ki") => `(tactic| first | with_reducible exact k_bb | with_reducible exact k_tt | with_reducible exact k_ss | with_reducible exact k_ii | with_reducible exact k_ib | with_reducible exact k_it | with_reducible exact k_is | with_reducible exact k_tb | with_reducible exact k_sb | with_reducible exact k_st | with_reducible exact k_bi | with_reducible exact k_bt | with_reducible exact k_bs | with_reducible exact k_ti | with_reducible exact k_ts | with_reducible exact k_si | with_reducible exact k_nb | with_reducible exact k_nt | with_reducible exact k_ns | with_reducible exact k_ni | with_reducible exact k_lt | with_reducible exact k_lb | with_reducible exact k_ls | with_reducible exact k_li)
local macro_rules | `(tactic| walk_at "cl") => `(tactic| with_reducible assumption)
local macro_rules | `(tactic| walk_at "bi") => `(tactic| first | with_reducible assumption | rfl)
local macro_rules | `(tactic| walk_at "lc") => `(tactic| with_reducible assumption)
local macro_rules | `(tactic| walk_at "ar") => `(tactic| first | with_reducible exact aNil_ev | ((with_reducible apply aCons_ev); (walk_at "ev"); (walk_at "ar")))
local macro_rules | `(tactic| walk_at "va") => `(tactic| first | with_reducible exact vNil_ev | ((with_reducible apply vCons_ev); ((with_reducible apply vE_ev); (walk_at "ev")); (walk_at "va")) | ((with_reducible apply vCons_ev); ((with_reducible apply vR_ev); rfl); (walk_at "va")))
local macro_rules | `(tactic| walk_at "os") => `(tactic| first | with_reducible exact oNone_ev | ((with_reducible apply oSome_ev); (walk_at "ev")))
local macro_rules | `(tactic| walk_at "ls") => `(tactic| first
  | ((with_reducible apply lLst_ev); (walk_at "ar"); (walk_at "le"))
  | ((with_reducible apply lList_ev); (walk_at "ev"); rfl)
  | ((with_reducible apply lListV_ev); rfl)
  | ((with_reducible apply lListRg_ev); (walk_at "ev"); omega)
  | ((with_reducible apply lListRg2_ev); (walk_at "ev"); (walk_at "ev"); omega; omega)
  | ((with_reducible apply lRep_ev); (walk_at "ar"); (walk_at "ev"); omega; (walk_at "le"))
  | ((with_reducible apply lLc_ev); (walk_at "it"); (walk_at "lc"))
  | ((with_reducible apply lKeys_ev); rfl))
local macro_rules | `(tactic| walk_at "it") => `(tactic| first
  | ((with_reducible apply iSq_ev); (walk_at "ev"); rfl)
  | ((with_reducible apply iRg1_ev); (walk_at "ev"); omega)
  | ((with_reducible apply iRg2_ev); (walk_at "ev"); (walk_at "ev"); omega; omega)
  | ((with_reducible apply iEn_ev); (walk_at "ev"))
  | ((with_reducible apply iZp_T); (walk_at "ev"); (walk_at "ev"))
  | ((with_reducible apply iZp_L); (walk_at "ev"); (walk_at "ev")))
local macro_rules | `(tactic| walk_at "dg") => `(tactic| with_reducible assumption)
local macro_rules | `(tactic| walk_at "dl") => `(tactic| with_reducible exact lDnew_ev)
local macro_rules | `(tactic| walk_at "nt") => `(tactic| first | with_reducible exact uNil_ev | ((with_reducible apply uD_ev); (walk_at "ev"); (walk_at "nt")) | ((with_reducible apply uL_ev); (walk_at "ls"); (walk_at "nt")) | ((with_reducible apply uC_ev); (walk_at "dl"); (walk_at "nt")))
local macro_rules | `(tactic| walk_at "ev") => `(tactic| first
  | ((with_reducible apply eVar_ev); rfl) | with_reducible exact eC_ev
  | ((with_reducible apply eOp_ev); (walk_at "ev"); (walk_at "ev"); (walk_at "op"))
  | ((with_reducible apply eUn_ev); (walk_at "ev"); rfl)
  | ((with_reducible apply eCB_ev); (walk_at "ar"); (walk_at "bi"))
  | ((with_reducible apply eTup_ev); (walk_at "ar"); (walk_at "le"))
  | ((with_reducible apply eL_ev); (walk_at "ls"))
  | ((with_reducible apply eCall_ev); (walk_at "va"); (walk_at "cl"))
  | ((with_reducible apply eCallK_ev); (walk_at "va"); (walk_at "va"); (walk_at "cl"))
  | ((with_reducible apply eCallD_ev); (walk_at "va"); (walk_at "cl"))
  | ((with_reducible apply eIsN_ev); (walk_at "ev"))
  | ((with_reducible apply eNotN_ev); (walk_at "ev"))
  | ((with_reducible apply eIsi_ev); (walk_at "ev"); (walk_at "ki"))
  | ((with_reducible apply eNot_ev); (walk_at "ev"); rfl)
  | ((with_reducible apply eChain_B); (walk_at "ev"); (walk_at "ev"); (walk_at "op"); (walk_at "ev"); (walk_at "op"))
  | ((with_reducible apply eSl_ev); (walk_at "ev"); (walk_at "os"); (walk_at "os"); rfl)
  | ((with_reducible apply eIxV_ev); rfl; (walk_at "ev"); rfl; (walk_at "at"))
  | ((with_reducible apply eLenV_ev); rfl)
  | ((with_reducible apply eTupleV_ev); rfl)
  | ((with_reducible apply eSlV_ev); rfl; (walk_at "os"); (walk_at "os"); rfl)
  | ((with_reducible apply eInV_ev); (walk_at "ev"); rfl; (walk_at "op"))
  | ((with_reducible apply eDget_ev); rfl; (walk_at "ev"); rfl; with_reducible exact keyO_i; (walk_at "dg"))
  | ((with_reducible apply eDin_ev); (walk_at "ev"); rfl; with_reducible exact keyO_i)
  | ((with_reducible apply eDnot_ev); (walk_at "ev"); rfl; with_reducible exact keyO_i)
  | ((with_reducible apply eLenD_ev); rfl)
  | ((with_reducible apply eIf_D); (walk_at "be"); (first | ((with_reducible apply cd_T); (walk_at "tr"); (walk_at "ev")) | ((with_reducible apply cd_F); (walk_at "tr"); (walk_at "ev"))))
  | ((with_reducible apply eAnd_F); (walk_at "ev"); rfl)
  | ((with_reducible apply eAnd_T); (walk_at "ev"); rfl; (walk_at "ev"))
  | ((with_reducible apply eOr_T); (walk_at "ev"); rfl)
  | ((with_reducible apply eOr_F); (walk_at "ev"); rfl; (walk_at "ev"))
  | ((with_reducible apply eAnd_B); (walk_at "ev"); (intro _; walk_at "ev"))
  | ((with_reducible apply eOr_B); (walk_at "ev"); (intro _; walk_at "ev")))
local macro_rules | `(tactic| walk_at "be") => `(tactic| first
  | with_reducible exact bYes_ev
  | ((with_reducible apply bTest_ev); (walk_at "ev"))
  | ((with_reducible apply bTru_ev); (walk_at "ev"); rfl)
  | ((with_reducible apply bTruV_ev); rfl)
  | ((with_reducible apply bTruD_ev); rfl)
  | ((with_reducible apply bNot_ev); (walk_at "be"))
  | ((with_reducible apply bIf_D); (walk_at "be"); (first | ((with_reducible apply cd_T); (walk_at "tr"); (walk_at "be")) | ((with_reducible apply cd_F); (walk_at "tr"); (walk_at "be"))))
  | ((with_reducible apply bAnd_D); (walk_at "be"); (first | ((with_reducible apply cd_T); (walk_at "tr"); (walk_at "be")) | ((with_reducible apply cd_F); (walk_at "tr"); rfl)))
  | ((with_reducible apply bOr_D); (walk_at "be"); (first | ((with_reducible apply cd_T); (walk_at "tr"); rfl) | ((with_reducible apply cd_F); (walk_at "tr"); (walk_at "be"))))
  | ((with_reducible apply bAnd_B); (walk_at "be"); (intro _; walk_at "be"))
  | ((with_reducible apply bOr_B); (walk_at "be"); (intro _; walk_at "be")))
local macro_rules | `(tactic| walk_at "ex") => `(tactic| first
  | with_reducible exact xNext_ev | with_reducible exact xBreak_ev | with_reducible exact xCont_ev
  | ((with_reducible apply xAsg_ev); (walk_at "ev"))
  | ((with_reducible apply xAsgG_ev); (walk_at "ev"); rfl)
  | ((with_reducible apply xAsgL_ev); (walk_at "ls"))
  | ((with_reducible apply xNewL_ev); (walk_at "ls"))
  | ((with_reducible apply xAug_ev); rfl; (walk_at "ev"); (walk_at "op"))
  | ((with_reducible apply xDrop_ev); (walk_at "ev"))
  | ((with_reducible apply xRet_ev); (walk_at "ev"))
  | ((with_reducible apply xApp_ev); rfl; (walk_at "ev"); rfl; (walk_at "le"))
  | ((with_reducible apply xSetI_ev); (walk_at "ev"); rfl; (walk_at "ev"); rfl; exact ixN_in (by walk_at "le"))
  | ((with_reducible apply xPar_ev); (walk_at "ev"); (walk_at "ev"))
  | ((with_reducible apply xParDL_ev); (walk_at "ev"); (walk_at "ls"))
  | ((with_reducible apply xParLD_ev); (walk_at "ls"); (walk_at "ev"))
  | ((with_reducible apply xParLL_ev); (walk_at "ls"); (walk_at "ls"))
  | ((with_reducible apply xPar3_ev); (walk_at "ar"))
  | ((with_reducible apply xDput_ev); (walk_at "ev"); rfl; (walk_at "ev"); rfl; with_reducible exact keyO_i; (walk_at "le"))
  | ((with_reducible apply xDpop_ev); rfl; (walk_at "ev"); rfl; with_reducible exact keyO_i; (walk_at "dg"))
  | ((with_reducible apply xAsgC_ev); (walk_at "dl"))
  | ((with_reducible apply xTup2_ev); (walk_at "nt"))
  | ((with_reducible apply xFrz_O); rfl; (walk_at "ex"))
  | ((with_reducible apply xFrz_D); rfl; (walk_at "ex"))
  | ((with_reducible apply xIf_D); (walk_at "be"); (first | ((with_reducible apply cd_T); (walk_at "tr"); (walk_at "ex")) | ((with_reducible apply cd_F); (walk_at "tr"); (walk_at "ex"))))
  | ((with_reducible apply xSeq_ev); (walk_at "ex"); (walk_at "ex")))
local macro_rules | `(tactic| walk_at "st") => `(tactic| ((first | refine rt_seq (by walk_at "ex") ?_ | refine seq_step (by walk_at "ex") ?_); try simp only [List.set_cons_succ, List.set_cons_zero]))
local macro_rules | `(tactic| walk_at "rt") => `(tactic| refine rt_is (rt_ret (by walk_at "ev")) ?_ ?_)
local macro_rules | `(tactic| walk_at "yes") => `(tactic| (first | refine rt_now (rt_T (by walk_at "be") (by walk_at "tr") ?_) | refine rt_T (by walk_at "be") (by walk_at "tr") ?_))
local macro_rules | `(tactic| walk_at "noo") => `(tactic| (first | refine rt_now (rt_F (by walk_at "be") (by walk_at "tr") ?_) | refine rt_F (by walk_at "be") (by walk_at "tr") ?_))
local macro_rules | `(tactic| walk_at "op") => `(tactic| ((with_reducible apply ixD_g); assumption))
local macro_rules | `(tactic| walk_at "bi") => `(tactic| with_reducible exact lenD_g)
local macro_rules | `(tactic| walk_at "bi") => `(tactic| with_reducible exact lenD_n)
local macro_rules | `(tactic| walk_at "cl") => `(tactic| ((with_reducible apply draw_eq) <;> first | omega | assumption))
local macro_rules | `(tactic| walk_at "cl") => `(tactic| ((with_reducible apply dworth_eq) <;> first | omega | assumption))
/-! ### the same thing twice -/
def plainN : Nat → PyData → Bool
  | _, .none => true
  | _, .bool _ => true
  | _, .int _ => true
  | _, .str _ => true
  | 0, .tuple _ => false
  | k + 1, .tuple ds => decide (ds.length ≤ 1000) && ds.all (plainN k)
  | _, _ => false
def m_l_same (F_l_same : FS) : X :=
  (xSeq (xIf (bTest (eIsN (eVar 1)))
    (xRet (eIsN (eVar 0)))
    xNext)
  (xSeq (xIf (bTru (eIsi "bool" (eVar 1)))
    (xRet (eAnd (eIsi "bool" (eVar 0)) (eOp eqD (eVar 0) (eVar 1))))
    xNext)
  (xSeq (xIf (bTru (eIsi "tuple" (eVar 1)))
    (xSeq (xIf (bOr (bNot (bTru (eIsi "tuple" (eVar 0)))) (bTest (eOp neD (eCB lenD (aCons (eVar 0) aNil)) (eCB lenD (aCons (eVar 1) aNil)))))
      (xRet (eC (.bool false)))
      xNext)
    (xRet (eCB allD (aCons (eL (lLc [2, 3] (iZp (eVar 0) (eVar 1)) (gTp 2 (gsCons (gNm 2) (gsCons (gNm 3) gsNil))) bYes (eCall F_l_same (vCons (vE (eVar 2)) (vCons (vE (eVar 3)) vNil))))) aNil))))
    xNext)
  (xSeq (xIf (bTru (eIsi "str" (eVar 1)))
    (xRet (eAnd (eIsi "str" (eVar 0)) (eOp eqD (eVar 0) (eVar 1))))
    xNext)
  (xRet (eAnd (eIsi "int" (eVar 0)) (eAnd (eNot (eIsi "bool" (eVar 0))) (eOp eqD (eVar 0) (eVar 1)))))))))
def r_l_same : Nat → FS
  | 0 => fun _ _ => none
  | n + 1 => fnS 4 (m_l_same (r_l_same n))
def f_l_same : FS := r_l_same 8

theorem zip_self (es : List PyData) : zipD es es = es.map fun e => .tuple [e, e] := by
  unfold zipD
  induction es with
  | nil => rfl
  | cons x r ih => simp [ih]
theorem same_run (g : Sg) : ∀ (n : Nat) (a : PyData), plainN n a = true → r_l_same (n + 1) [.dat a, .dat a] g = some (.dat (.bool true), g) := by
  intro n
  induction n with
  | zero =>
    intro a ha
    rw [r_l_same]
    unfold m_l_same
    refine fn_ret (l := [.dat a, .dat a, .no, .no]) rfl ?_
    cases a with
    | none => 
      walk_at "yes"
      walk_at "rt"
      · rfl
      · rfl
    | bool b =>
      walk_at "st"
      walk_at "yes"
      walk_at "rt"
      · simp
      · rfl
    | int i =>
      walk_at "st"; walk_at "st"; walk_at "st"; walk_at "st"
      walk_at "rt"
      · simp
      · rfl
    | str s =>
      walk_at "st"; walk_at "st"; walk_at "st"
      walk_at "yes"
      walk_at "rt"
      · simp
      · rfl
    | list ds => cases ha
    | tuple ds => cases ha
    | dict ds => cases ha
  | succ n ih =>
    intro a ha
    rw [r_l_same]
    unfold m_l_same
    refine fn_ret (l := [.dat a, .dat a, .no, .no]) rfl ?_
    cases a with
    | none => 
      walk_at "yes"
      walk_at "rt"
      · rfl
      · rfl
    | bool b =>
      walk_at "st"
      walk_at "yes"
      walk_at "rt"
      · simp
      · rfl
    | int i =>
      walk_at "st"; walk_at "st"; walk_at "st"; walk_at "st"
      walk_at "rt"
      · simp
      · rfl
    | str s =>
      walk_at "st"; walk_at "st"; walk_at "st"
      walk_at "yes"
      walk_at "rt"
      · simp
      · rfl
    | list ds => cases ha
    | tuple ds =>
      have ha' : (decide (ds.length ≤ 1000) && ds.all (plainN n)) = true := ha
      rw [Bool.and_eq_true, decide_eq_true_eq, List.all_eq_true] at ha'
      walk_at "st"; walk_at "st"
      walk_at "yes"
      refine rt_seq (xIf_F (bOr_F (bNot_ev (bTru_ev (eIsi_ev (eVar_ev rfl) k_tt) truO_b)) rfl (bTest_ev (eOp_ev (eCB_ev (aCons_ev (eVar_ev rfl) aNil_ev) rfl) (eCB_ev (aCons_ev (eVar_ev rfl) aNil_ev) rfl) neD_ii))) (by simp) xNext_ev) ?_
      have hlc : lcO [2, 3] (gTp 2 (gsCons (gNm 2) (gsCons (gNm 3) gsNil))) bYes (eCall (r_l_same (n + 1)) (vCons (vE (eVar 2)) (vCons (vE (eVar 3)) vNil))) (zipD ds ds) [.dat (.tuple ds), .dat (.tuple ds), .no, .no] g = some ((ds.map fun _ => true).map .bool, [.dat (.tuple ds), .dat (.tuple ds), .no, .no], g) := by
        have h := lcL_pure (vs := [2, 3]) (tg := gTp 2 (gsCons (gNm 2) (gsCons (gNm 3) gsNil))) (t := bYes) (e := eCall (r_l_same (n + 1)) (vCons (vE (eVar 2)) (vCons (vE (eVar 3)) vNil))) (l := [.dat (.tuple ds), .dat (.tuple ds), .no, .no]) (g := g) (q := fun _ => true) (f := fun _ => PyData.bool true) (ds := zipD ds ds) (fun d hd => by
          rw [zip_self] at hd
          obtain ⟨e, he, rfl⟩ := List.mem_map.mp hd
          have hi := ih e (ha'.2 e he)
          exact ⟨[.dat (.tuple ds), .dat (.tuple ds), .dat e, .dat e], rfl, rfl, rfl, fun _ => by walk_at "ev"⟩)
        refine lcO_of rfl (by rw [zip_self, List.length_map]; omega) (h.trans ?_)
        rw [List.filter_eq_self.mpr fun _ _ => rfl, zip_self, List.map_map, List.map_map]
        rfl
      have hall : allD [.list ((ds.map fun _ => true).map .bool)] = some (.bool true) := by
        rw [allD_b]
        simp
      walk_at "rt"
      · rfl
      · rfl
    | dict ds => cases ha
theorem same_eq (g : Sg) (a : PyData) (h : plainN 7 a = true) : f_l_same [.dat a, .dat a] g = some (.dat (.bool true), g) := same_run g 7 a h

end
section
local macro_rules | `(tactic| walk_at "tr") => `(tactic| first | rfl | exact decide_eq_true (by omega) | exact decide_eq_false (by omega) | with_reducible assumption | (simp only [Bool.and_eq_true, Bool.and_eq_false_iff, Bool.or_eq_true, Bool.or_eq_false_iff, Bool.not_eq_true', Bool.not_eq_false', decide_eq_true_eq, decide_eq_false_iff_not]; omega) | (simp; done))
local macro_rules | `(tactic| walk_at "le") => `(tactic| first | omega | (simp only [List.length_cons, List.length_nil, List.length_append, List.length_map]; omega) | decide)
local macro_rules | `(tactic| walk_at "gt") => `(tactic| first | with_reducible assumption | with_reducible rfl | rfl)
local macro_rules | `(tactic| walk_at "op") => `(tactic| first
  | with_reducible exact plusD_ii | with_reducible exact subD_ii | with_reducible exact addI_ii | with_reducible exact ltD_ii | with_reducible exact leD_ii | with_reducible exact gtD_ii | with_reducible exact geD_ii
  | with_reducible exact eqD_ii | with_reducible exact eqD_ss | with_reducible exact eqD_is | with_reducible exact eqD_si | with_reducible exact eqD_bb | with_reducible exact neD_ii | with_reducible exact neD_ss | with_reducible exact neD_is | with_reducible exact neD_si | with_reducible exact neD_bb
  | with_reducible assumption
  | ((with_reducible apply modD_ev); omega) | ((with_reducible apply fdivD_ev); omega) | ((with_reducible apply mulD_ev); (first | exact Or.inl ⟨by omega, by omega⟩ | exact Or.inr ⟨by omega, by omega⟩))
  | ((with_reducible apply ixD_t0); walk_at "gt") | ((with_reducible apply ixD_l0); walk_at "gt") | ((with_reducible apply ixD_t1); walk_at "gt") | ((with_reducible apply ixD_l1); walk_at "gt")
  | ((with_reducible apply ixD_last); walk_at "gt") | ((with_reducible apply ixD_lastL); walk_at "gt")
  | ((with_reducible apply ixD_tN); walk_at "gt") | ((with_reducible apply ixD_lN); walk_at "gt")
  | ((with_reducible apply ixD_t); omega; walk_at "gt") | ((with_reducible apply ixD_l); omega; walk_at "gt")
  | ((with_reducible apply plusD_l); walk_at "le") | ((with_reducible apply plusD_t); walk_at "le"))
local macro_rules | `(tactic| walk_at "at") => `(tactic| first | with_reducible assumption | ((with_reducible apply atI_z); walk_at "gt") | ((with_reducible apply atI_last); walk_at "gt") | ((with_reducible apply atI_N); walk_at "gt") | ((with_reducible apply atI_i); omega; walk_at "gt") | ((with_reducible apply atI_last); walk_at "gt"))
local macro_rules | `(tactic| walk_at "ki") => `(tactic| first | with_reducible exact k_bb | with_reducible exact k_tt | with_reducible exact k_ss | with_reducible exact k_ii | with_reducible exact k_ib | with_reducible exact k_it | with_reducible exact k_is | with_reducible exact k_tb | with_reducible exact k_sb | with_reducible exact k_st | with_reducible exact k_bi | with_reducible exact k_bt | with_reducible exact k_bs | with_reducible exact k_ti | with_reducible exact k_ts | with_reducible exact k_si | with_reducible exact k_nb | with_reducible exact k_nt | with_reducible exact k_ns | with_reducible exact k_ni | with_reducible exact k_lt | with_reducible exact k_lb | with_reducible exact k_ls | with_reducible exact k_li)
local macro_rules | `(tactic| walk_at "cl") => `(tactic| with_reducible assumption)
local macro_rules | `(tactic| walk_at "bi") => `(tactic| first | with_reducible assumption | rfl)
local macro_rules | `(tactic| walk_at "lc") => `(tactic| with_reducible assumption)
local macro_rules | `(tactic| walk_at "ar") => `(tactic| first | with_reducible exact aNil_ev | ((with_reducible apply aCons_ev); (walk_at "ev"); (walk_at "ar")))
local macro_rules | `(tactic| walk_at "va") => `(tactic| first | with_reducible exact vNil_ev | ((with_reducible apply vCons_ev); ((with_reducible apply vE_ev); (walk_at "ev")); (walk_at "va")) | ((with_reducible apply vCons_ev); ((with_reducible apply vR_ev); rfl); (walk_at "va")))
local macro_rules | `(tactic| walk_at "os") => `(tactic| first | with_reducible exact oNone_ev | ((with_reducible apply oSome_ev); (walk_at "ev")))
local macro_rules | `(tactic| walk_at "ls") => `(tactic| first
  | ((with_reducible apply lLst_ev); (walk_at "ar"); (walk_at "le"))
  | ((with_reducible apply lList_ev); (walk_at "ev"); rfl)
  | ((with_reducible apply lListV_ev); rfl)
  | ((with_reducible apply lListRg_ev); (walk_at "ev"); omega)
  | ((with_reducible apply lListRg2_ev); (walk_at "ev"); (walk_at "ev"); omega; omega)
  | ((with_reducible apply lRep_ev); (walk_at "ar"); (walk_at "ev"); omega; (walk_at "le"))
  | ((with_reducible apply lLc_ev); (walk_at "it"); (walk_at "lc"))
  | ((with_reducible apply lKeys_ev); rfl))
local macro_rules | `(tactic| walk_at "it") => `(tactic| first
  | ((with_reducible apply iSq_ev); (walk_at "ev"); rfl)
  | ((with_reducible apply iRg1_ev); (walk_at "ev"); omega)
  | ((with_reducible apply iRg2_ev); (walk_at "ev"); (walk_at "ev"); omega; omega)
  | ((with_reducible apply iEn_ev); (walk_at "ev"))
  | ((with_reducible apply iZp_T); (walk_at "ev"); (walk_at "ev"))
  | ((with_reducible apply iZp_L); (walk_at "ev"); (walk_at "ev")))
local macro_rules | `(tactic| walk_at "dg") => `(tactic| with_reducible assumption)
local macro_rules | `(tactic| walk_at "dl") => `(tactic| with_reducible exact lDnew_ev)
local macro_rules | `(tactic| walk_at "nt") => `(tactic| first | with_reducible exact uNil_ev | ((with_reducible apply uD_ev); (walk_at "ev"); (walk_at "nt")) | ((with_reducible apply uL_ev); (walk_at "ls"); (walk_at "nt")) | ((with_reducible apply uC_ev); (walk_at "dl"); (walk_at "nt")))
local macro_rules | `(tactic| walk_at "ev") => `(tactic| first
  | ((with_reducible apply eVar_ev); rfl) | with_reducible exact eC_ev
  | ((with_reducible apply eOp_ev); (walk_at "ev"); (walk_at "ev"); (walk_at "op"))
  | ((with_reducible apply eUn_ev); (walk_at "ev"); rfl)
  | ((with_reducible apply eCB_ev); (walk_at "ar"); (walk_at "bi"))
  | ((with_reducible apply eTup_ev); (walk_at "ar"); (walk_at "le"))
  | ((with_reducible apply eL_ev); (walk_at "ls"))
  | ((with_reducible apply eCall_ev); (walk_at "va"); (walk_at "cl"))
  | ((with_reducible apply eCallK_ev); (walk_at "va"); (walk_at "va"); (walk_at "cl"))
  | ((with_reducible apply eCallD_ev); (walk_at "va"); (walk_at "cl"))
  | ((with_reducible apply eIsN_ev); (walk_at "ev"))
  | ((with_reducible apply eNotN_ev); (walk_at "ev"))
  | ((with_reducible apply eIsi_ev); (walk_at "ev"); (walk_at "ki"))
  | ((with_reducible apply eNot_ev); (walk_at "ev"); rfl)
  | ((with_reducible apply eChain_B); (walk_at "ev"); (walk_at "ev"); (walk_at "op"); (walk_at "ev"); (walk_at "op"))
  | ((with_reducible apply eSl_ev); (walk_at "ev"); (walk_at "os"); (walk_at "os"); rfl)
  | ((with_reducible apply eIxV_ev); rfl; (walk_at "ev"); rfl; (walk_at "at"))
  | ((with_reducible apply eLenV_ev); rfl)
  | ((with_reducible apply eTupleV_ev); rfl)
  | ((with_reducible apply eSlV_ev); rfl; (walk_at "os"); (walk_at "os"); rfl)
  | ((with_reducible apply eInV_ev); (walk_at "ev"); rfl; (walk_at "op"))
  | ((with_reducible apply eDget_ev); rfl; (walk_at "ev"); rfl; with_reducible exact keyO_i; (walk_at "dg"))
  | ((with_reducible apply eDin_ev); (walk_at "ev"); rfl; with_reducible exact keyO_i)
  | ((with_reducible apply eDnot_ev); (walk_at "ev"); rfl; with_reducible exact keyO_i)
  | ((with_reducible apply eLenD_ev); rfl)
  | ((with_reducible apply eIf_D); (walk_at "be"); (first | ((with_reducible apply cd_T); (walk_at "tr"); (walk_at "ev")) | ((with_reducible apply cd_F); (walk_at "tr"); (walk_at "ev"))))
  | ((with_reducible apply eAnd_F); (walk_at "ev"); rfl)
  | ((with_reducible apply eAnd_T); (walk_at "ev"); rfl; (walk_at "ev"))
  | ((with_reducible apply eOr_T); (walk_at "ev"); rfl)
  | ((with_reducible apply eOr_F); (walk_at "ev"); rfl; (walk_at "ev"))
  | ((with_reducible apply eAnd_B); (walk_at "ev"); (intro _; walk_at "ev"))
  | ((with_reducible apply eOr_B); (walk_at "ev"); (intro _; walk_at "ev")))
local macro_rules | `(tactic| walk_at "be") => `(tactic| first
  | with_reducible exact bYes_ev
  | ((with_reducible apply bTest_ev); (walk_at "ev"))
  | ((with_reducible apply bTru_ev); (walk_at "ev"); rfl)
  | ((with_reducible apply bTruV_ev); rfl)
  | ((with_reducible apply bTruD_ev); rfl)
  | ((with_reducible apply bNot_ev); (walk_at "be"))
  | ((with_reducible apply bIf_D); (walk_at "be"); (first | ((with_reducible apply cd_T); (walk_at "tr"); (walk_at "be")) | ((with_reducible apply cd_F); (walk_at "tr"); (walk_at "be"))))
  | ((with_reducible apply bAnd_D); (walk_at "be"); (first | ((with_reducible apply cd_T); (walk_at "tr"); (walk_at "be")) | ((with_reducible apply cd_F); (walk_at "tr"); rfl)))
  | ((with_reducible apply bOr_D); (walk_at "be"); (first | ((with_reducible apply cd_T); (walk_at "tr"); rfl) | ((with_reducible apply cd_F); (walk_at "tr"); (walk_at "be"))))
  | ((with_reducible apply bAnd_B); (walk_at "be"); (intro _; walk_at "be"))
  | ((with_reducible apply bOr_B); (walk_at "be"); (intro _; walk_at "be")))
local macro_rules | `(tactic| walk_at "ex") => `(tactic| first
  | with_reducible exact xNext_ev | with_reducible exact xBreak_ev | with_reducible exact xCont_ev
  | ((with_reducible apply xAsg_ev); (walk_at "ev"))
  | ((with_reducible apply xAsgG_ev); (walk_at "ev"); rfl)
  | ((with_reducible apply xAsgL_ev); (walk_at "ls"))
  | ((with_reducible apply xNewL_ev); (walk_at "ls"))
  | ((with_reducible apply xAug_ev); rfl; (walk_at "ev"); (walk_at "op"))
  | ((with_reducible apply xDrop_ev); (walk_at "ev"))
  | ((with_reducible apply xRet_ev); (walk_at "ev"))
  | ((with_reducible apply xApp_ev); rfl; (walk_at "ev"); rfl; (walk_at "le"))
  | ((with_reducible apply xSetI_ev); (walk_at "ev"); rfl; (walk_at "ev"); rfl; exact ixN_in (by walk_at "le"))
  | ((with_reducible apply xPar_ev); (walk_at "ev"); (walk_at "ev"))
  | ((with_reducible apply xParDL_ev); (walk_at "ev"); (walk_at "ls"))
  | ((with_reducible apply xParLD_ev); (walk_at "ls"); (walk_at "ev"))
  | ((with_reducible apply xParLL_ev); (walk_at "ls"); (walk_at "ls"))
  | ((with_reducible apply xPar3_ev); (walk_at "ar"))
  | ((with_reducible apply xDput_ev); (walk_at "ev"); rfl; (walk_at "ev"); rfl; with_reducible exact keyO_i; (walk_at "le"))
  | ((with_reducible apply xDpop_ev); rfl; (walk_at "ev"); rfl; with_reducible exact keyO_i; (walk_at "dg"))
  | ((with_reducible apply xAsgC_ev); (walk_at "dl"))
  | ((with_reducible apply xTup2_ev); (walk_at "nt"))
  | ((with_reducible apply xFrz_O); rfl; (walk_at "ex"))
  | ((with_reducible apply xFrz_D); rfl; (walk_at "ex"))
  | ((with_reducible apply xIf_D); (walk_at "be"); (first | ((with_reducible apply cd_T); (walk_at "tr"); (walk_at "ex")) | ((with_reducible apply cd_F); (walk_at "tr"); (walk_at "ex"))))
  | ((with_reducible apply xSeq_ev); (walk_at "ex"); (walk_at "ex")))
local macro_rules | `(tactic| walk_at "st") => `(tactic| ((first | refine rt_seq (by walk_at "ex") ?_ | refine seq_step (by walk_at "ex") ?_); try simp only [List.set_cons_succ, List.set_cons_zero]))
local macro_rules | `(tactic| walk_at "rt") => `(tactic| refine rt_is (rt_ret (by walk_at "ev")) ?_ ?_)
local macro_rules | `(tactic| walk_at "yes") => `(tactic| (first | refine rt_now (rt_T (by walk_at "be") (by walk_at "tr") ?_) | refine rt_T (by walk_at "be") (by walk_at "tr") ?_))
local macro_rules | `(tactic| walk_at "noo") => `(tactic| (first | refine rt_now (rt_F (by walk_at "be") (by walk_at "tr") ?_) | refine rt_F (by walk_at "be") (by walk_at "tr") ?_))
local macro_rules | `(tactic| walk_at "op") => `(tactic| ((with_reducible apply ixD_g); assumption))
local macro_rules | `(tactic| walk_at "bi") => `(tactic| with_reducible exact lenD_g)
local macro_rules | `(tactic| walk_at "bi") => `(tactic| with_reducible exact lenD_n)
/-! ### an order of all places, plainly -/
def mvs (g : List Pl) (p : Nat) : List Nat := ((g[p]?).map Pl.moves).getD []
def cnt (g : List Pl) (dn : List Nat) (p : Nat) : Nat := ((mvs g p).filter fun m => decide (m ∉ dn)).length
def restP (g : List Pl) (dn : List Nat) : List Nat := (List.range g.length).filter fun p => decide (p ∉ dn)
def readyP (g : List Pl) (dn : List Nat) : List Nat := (restP g dn).filter fun p => decide (cnt g dn p = 0)
def ordGo (g : List Pl) : Nat → List Nat → Option (List Nat)
  | 0, dn => some dn
  | k + 1, dn => match readyP g dn with | [] => none | f :: _ => ordGo g k (dn ++ [f])
def ordOf (g : List Pl) : Option (List Nat) := ordGo g g.length []
theorem mvs_eq {g : List Pl} {p : Nat} {x : Pl} (h : g[p]? = some x) : mvs g p = x.moves := by unfold mvs; rw [h]; rfl
theorem mem_rest {g : List Pl} {dn : List Nat} {p : Nat} : p ∈ restP g dn ↔ p < g.length ∧ p ∉ dn := by
  unfold restP
  rw [List.mem_filter, List.mem_range, decide_eq_true_eq]
theorem mem_ready {g : List Pl} {dn : List Nat} {p : Nat} : p ∈ readyP g dn ↔ (p < g.length ∧ p ∉ dn) ∧ ∀ m ∈ mvs g p, m ∈ dn := by
  unfold readyP cnt
  rw [List.mem_filter, mem_rest, decide_eq_true_eq, List.length_eq_zero_iff, List.filter_eq_nil_iff]
  refine and_congr_right fun _ => forall_congr' fun m => forall_congr' fun _ => ?_
  rw [decide_eq_true_eq, Classical.not_not]
theorem filter_two (q : Nat → Bool) : ∀ xs : List Nat, xs.length = (xs.filter q).length + (xs.filter fun p => !q p).length
  | [] => rfl
  | x :: r => by
    have := filter_two q r
    by_cases h : q x = true
    · rw [List.filter_cons_of_pos h, List.filter_cons_of_neg (by simp [h])]
      simp only [List.length_cons]
      omega
    · rw [List.filter_cons_of_neg h, List.filter_cons_of_pos (by simpa using h)]
      simp only [List.length_cons]
      omega
theorem rest_len {g : List Pl} {dn : List Nat} (hn : dn.Nodup) (hl : ∀ p ∈ dn, p < g.length) : (restP g dn).length + dn.length = g.length := by
  have h1 : ((List.range g.length).filter fun p => decide (p ∈ dn)).Perm dn := by
    refine (List.perm_ext_iff_of_nodup (List.Pairwise.filter _ List.nodup_range) hn).mpr fun p => ?_
    rw [List.mem_filter, List.mem_range, decide_eq_true_eq]
    exact ⟨fun q => q.2, fun q => ⟨hl p q, q⟩⟩
  have h2 := filter_two (fun p => decide (p ∈ dn)) (List.range g.length)
  rw [List.length_range, h1.length_eq] at h2
  unfold restP
  have h3 : (List.range g.length).filter (fun p => decide (p ∉ dn)) = (List.range g.length).filter fun p => !decide (p ∈ dn) := by
    apply List.filter_congr
    intro x _
    simp
  rw [h3]
  omega
theorem rest_snoc {g : List Pl} {dn : List Nat} {f : Nat} : restP g (dn ++ [f]) = (restP g dn).filter fun p => decide (p ≠ f) := by
  unfold restP
  rw [List.filter_filter]
  apply List.filter_congr
  intro x _
  simp [and_comm]
theorem cnt_snoc {g : List Pl} {dn : List Nat} {f p : Nat} (hf : f ∉ dn) (hn : (mvs g p).Nodup) : cnt g dn p = cnt g (dn ++ [f]) p + (if f ∈ mvs g p then 1 else 0) := by
  unfold cnt
  generalize mvs g p = ms at hn
  induction ms with
  | nil => simp
  | cons m r ih =>
    obtain ⟨hm, hr⟩ := List.nodup_cons.mp hn
    have ih := ih hr
    by_cases e : f = m
    · subst e
      have : f ∉ r := hm
      rw [if_neg this] at ih
      rw [if_pos List.mem_cons_self, List.filter_cons_of_pos (by simpa using hf), List.filter_cons_of_neg (by simp)]
      simp only [List.length_cons]
      omega
    · have h2 : (f ∈ m :: r) = (f ∈ r) := by simp [e]
      simp only [h2]
      by_cases hd : m ∈ dn
      · rw [List.filter_cons_of_neg (by simpa using hd), List.filter_cons_of_neg (by simp [hd])]
        exact ih
      · rw [List.filter_cons_of_pos (by simpa using hd), List.filter_cons_of_pos (by simp [hd, Ne.symm e])]
        simp only [List.length_cons]
        omega
structure Topo (g : List Pl) (o : List Nat) : Prop where
  perm : o.Perm (List.range g.length)
  dn : ∀ (i p : Nat), o[i]? = some p → ∀ m ∈ mvs g p, m ∈ o.take i
theorem least_rk {rk : Nat → Nat} : ∀ {xs : List Nat}, xs ≠ [] → ∃ x ∈ xs, ∀ y ∈ xs, rk x ≤ rk y
  | [], h => absurd rfl h
  | [x], _ => ⟨x, by simp, by simp⟩
  | x :: y :: r, _ => by
    obtain ⟨z, hz, hm⟩ := least_rk (rk := rk) (xs := y :: r) (by simp)
    by_cases h : rk x ≤ rk z
    · refine ⟨x, by simp, fun w hw => ?_⟩
      rcases List.mem_cons.mp hw with rfl | hw
      · exact Nat.le_refl _
      · exact Nat.le_trans h (hm w hw)
    · refine ⟨z, List.mem_cons_of_mem _ hz, fun w hw => ?_⟩
      rcases List.mem_cons.mp hw with rfl | hw
      · omega
      · exact hm w hw
theorem ready_ne {g : List Pl} {rk : Nat → Nat} {dn : List Nat} (hg : Good g) (h : Rk g rk) (hr : restP g dn ≠ []) : readyP g dn ≠ [] := by
  obtain ⟨p, hp, hm⟩ := least_rk (rk := rk) hr
  refine List.ne_nil_of_mem (a := p) (mem_ready.mpr ⟨mem_rest.mp hp, fun m hmm => ?_⟩)
  have hpl := (mem_rest.mp hp).1
  have hx : g[p]? = some g[p] := List.getElem?_eq_getElem hpl
  generalize g[p] = x at hx
  rw [mvs_eq hx] at hmm
  have h1 := h.dn p x m hx hmm
  have h2 : m < g.length := by
    cases x with
    | fin w => cases hmm
    | mv s ms => exact (hg.ok p _ hx).2.2.2.1 m hmm
  by_cases hd : m ∈ dn
  · exact hd
  · have := hm m (mem_rest.mpr ⟨h2, hd⟩)
    omega
theorem ordGo_topo {g : List Pl} {rk : Nat → Nat} (hg : Good g) (h : Rk g rk) : ∀ (k : Nat) (dn : List Nat), dn.Nodup → (∀ p ∈ dn, p < g.length) → k + dn.length = g.length → (∀ (i p : Nat), dn[i]? = some p → ∀ m ∈ mvs g p, m ∈ dn.take i) → ∃ o, ordGo g k dn = some o ∧ Topo g o
  | 0, dn, hn, hl, hk, ht => by
    refine ⟨dn, rfl, ⟨(List.perm_ext_iff_of_nodup hn List.nodup_range).mpr fun p => ?_, ht⟩⟩
    rw [List.mem_range]
    refine ⟨hl p, fun hp => ?_⟩
    have := rest_len hn hl
    have h0 : restP g dn = [] := List.length_eq_zero_iff.mp (by omega)
    by_cases hd : p ∈ dn
    · exact hd
    · have := mem_rest.mpr ⟨hp, hd⟩
      rw [h0] at this
      cases this
  | k + 1, dn, hn, hl, hk, ht => by
    have hlen := rest_len hn hl
    have hne : readyP g dn ≠ [] := ready_ne hg h fun z => by rw [z] at hlen; simp at hlen; omega
    rw [ordGo]
    cases hq : readyP g dn with
    | nil => exact absurd hq hne
    | cons f r =>
      obtain ⟨⟨f1, f2⟩, f3⟩ := mem_ready.mp (show f ∈ readyP g dn by rw [hq]; simp)
      refine ordGo_topo hg h k (dn ++ [f]) ?_ ?_ (by simp; omega) ?_
      · rw [List.nodup_append]
        exact ⟨hn, by simp, fun a ha b hb z => by simp at hb; subst hb; subst z; exact f2 ha⟩
      · intro p hp
        rcases List.mem_append.mp hp with hp | hp
        · exact hl p hp
        · simp at hp; subst hp; exact f1
      · intro i p hi m hm
        by_cases hlt : i < dn.length
        · rw [List.getElem?_append_left hlt] at hi
          rw [List.take_append_of_le_length (by omega)]
          exact ht i p hi m hm
        · have e : i = dn.length := by
            have := (List.getElem?_eq_some_iff.mp hi).1
            simp at this
            omega
          subst e
          rw [List.getElem?_append_right (Nat.le_refl _)] at hi
          simp at hi
          subst hi
          rw [List.take_left']
          · exact f3 m hm
          · rfl
theorem ord_topo {g : List Pl} (hg : Good g) (h : Straight g) : ∃ o, ordOf g = some o ∧ Topo g o := by
  obtain ⟨rk, hr⟩ := h.rk
  exact ordGo_topo hg hr g.length [] List.nodup_nil (fun p hp => by cases hp) (by simp) (fun i p hi => by simp at hi)
/-! ### dicts, plainly -/
section
variable {β : Type} {kvs : List (Key × β)} {k : Key} {v w : β} {i : Nat}
theorem val_at (hn : (kvs.map (·.1)).Nodup) (h : kvs[i]? = some (k, v)) : valG kvs k = some v := by
  unfold valG
  induction kvs generalizing i with
  | nil => simp at h
  | cons x r ih =>
    rw [List.map_cons, List.nodup_cons] at hn
    cases i with
    | zero =>
      simp at h
      subst h
      simp
    | succ i =>
      have h' : r[i]? = some (k, v) := by simpa using h
      have hx : x.1 ≠ k := fun z => hn.1 (by rw [z]; exact List.mem_map.mpr ⟨(k, v), List.mem_of_getElem? h', rfl⟩)
      rw [List.find?_cons_of_neg (by simpa using hx)]
      exact ih hn.2 h'
theorem put_at (hn : (kvs.map (·.1)).Nodup) (h : kvs[i]? = some (k, v)) : putG kvs k w = kvs.set i (k, w) := by
  have hany : (kvs.any fun kv => decide (kv.1 = k)) = true := List.any_eq_true.mpr ⟨(k, v), List.mem_of_getElem? h, by simp⟩
  unfold putG
  rw [if_pos hany]
  clear hany
  induction kvs generalizing i with
  | nil => simp at h
  | cons x r ih =>
    rw [List.map_cons, List.nodup_cons] at hn
    cases i with
    | zero =>
      simp at h
      subst h
      rw [List.map_cons, if_pos rfl, List.set_cons_zero]
      congr 1
      refine (List.map_congr_left fun y hy => ?_).trans (List.map_id r)
      have : y.1 ≠ k := fun z => hn.1 (by rw [← z]; exact List.mem_map.mpr ⟨y, hy, rfl⟩)
      rw [if_neg this]
      rfl
    | succ i =>
      have h' : r[i]? = some (k, v) := by simpa using h
      have hx : x.1 ≠ k := fun z => hn.1 (by rw [z]; exact List.mem_map.mpr ⟨(k, v), List.mem_of_getElem? h', rfl⟩)
      rw [List.map_cons, if_neg hx, List.set_cons_succ, ih hn.2 h']
theorem val_none (h : ∀ kv ∈ kvs, kv.1 ≠ k) : valG kvs k = none := by
  unfold valG
  rw [List.find?_eq_none.mpr fun kv hkv => by simpa using h kv hkv]
  rfl
end
def kN (p : Nat) : Key := .inl (p : Int)
theorem kN_inj {p q : Nat} (h : kN p = kN q) : p = q := by
  have := Sum.inl.inj h
  omega
theorem kN_nodup {ps : List Nat} (h : ps.Nodup) : (ps.map kN).Nodup := by
  show (ps.map kN).Pairwise (· ≠ ·)
  rw [List.pairwise_map]
  exact h.imp fun hab z => hab (kN_inj z)
/-! ### order_of -/
def ordD : Option (List Nat) → PyData
  | none => .none
  | some o => .tuple (nD o)
def leftD (g : List Pl) (dn : List Nat) : List (Key × PyData) := (restP g dn).map fun p => (kN p, .int (cnt g dn p : Nat))
def midD (g : List Pl) (dn : List Nat) (f i : Nat) : List (Key × PyData) := (restP g (dn ++ [f])).mapIdx fun j p => (kN p, .int (cnt g (if j < i then dn ++ [f] else dn) p : Nat))
theorem rest_nodup (g : List Pl) (dn : List Nat) : (restP g dn).Nodup := List.Pairwise.filter _ List.nodup_range
theorem left_zero (g : List Pl) : leftD g [] = (List.range g.length).map fun p => (kN p, .int ((mvs g p).length : Nat)) := by
  unfold leftD restP cnt
  rw [List.filter_eq_self.mpr (by simp)]
  apply List.map_congr_left
  intro p _
  rw [List.filter_eq_self.mpr (by simp)]
theorem mid_get {g : List Pl} {dn : List Nat} {f i j : Nat} : (midD g dn f i)[j]? = ((restP g (dn ++ [f]))[j]?).map fun p => (kN p, .int (cnt g (if j < i then dn ++ [f] else dn) p : Nat)) := by
  unfold midD
  rw [List.getElem?_mapIdx]
theorem left_drop (g : List Pl) (dn : List Nat) (f : Nat) : dropG (leftD g dn) (kN f) = midD g dn f 0 := by
  apply List.ext_getElem?
  intro j
  rw [mid_get]
  unfold dropG leftD
  rw [List.filter_map, List.getElem?_map, rest_snoc]
  have e : ((fun kv : Key × PyData => decide (kv.1 ≠ kN f)) ∘ fun p => (kN p, PyData.int (cnt g dn p : Nat))) = fun p => decide (p ≠ f) := by
    funext p
    show decide (kN p ≠ kN f) = decide (p ≠ f)
    by_cases h : p = f
    · subst h; simp
    · rw [decide_eq_true (show p ≠ f from h), decide_eq_true (show kN p ≠ kN f from fun z => h (kN_inj z))]
  rw [e]
  rfl
theorem mid_keys (g : List Pl) (dn : List Nat) (f i : Nat) : (midD g dn f i).map (·.1) = (restP g (dn ++ [f])).map kN := by
  apply List.ext_getElem?
  intro j
  rw [List.getElem?_map, mid_get, List.getElem?_map, Option.map_map]
  rfl
theorem mid_all (g : List Pl) (dn : List Nat) (f : Nat) : midD g dn f (restP g (dn ++ [f])).length = leftD g (dn ++ [f]) := by
  apply List.ext_getElem?
  intro j
  rw [mid_get]
  unfold leftD
  rw [List.getElem?_map]
  by_cases h : j < (restP g (dn ++ [f])).length
  · rw [if_pos h]
  · rw [List.getElem?_eq_none (by omega)]
    rfl
theorem mid_next {g : List Pl} {dn : List Nat} {f i p : Nat} (h : (restP g (dn ++ [f]))[i]? = some p) : (midD g dn f i).set i (kN p, .int (cnt g (dn ++ [f]) p : Nat)) = midD g dn f (i + 1) := by
  have hl : i < (restP g (dn ++ [f])).length := (List.getElem?_eq_some_iff.mp h).1
  apply List.ext_getElem?
  intro j
  rw [mid_get]
  by_cases hij : i = j
  · subst hij
    rw [List.getElem?_set_self (by unfold midD; rw [List.length_mapIdx]; exact hl), h, if_pos (by omega)]
    rfl
  · rw [List.getElem?_set_ne hij, mid_get]
    by_cases hj : j < i
    · rw [if_pos hj, if_pos (by omega)]
    · rw [if_neg hj, if_neg (by omega)]
theorem mid_same {g : List Pl} {dn : List Nat} {f i p : Nat} (h : (restP g (dn ++ [f]))[i]? = some p) (e : cnt g (dn ++ [f]) p = cnt g dn p) : midD g dn f i = midD g dn f (i + 1) := by
  rw [← mid_next h]
  apply List.ext_getElem?
  intro j
  by_cases hij : i = j
  · subst hij
    rw [List.getElem?_set_self (by unfold midD; rw [List.length_mapIdx]; exact (List.getElem?_eq_some_iff.mp h).1), mid_get, h, if_neg (Nat.lt_irrefl _), e]
    rfl
  · rw [List.getElem?_set_ne hij]
theorem left_empty {g : List Pl} {dn : List Nat} : (leftD g dn).isEmpty = (restP g dn).isEmpty := by
  unfold leftD
  cases restP g dn <;> rfl
def iD : PyData → Int
  | .int i => i
  | _ => 0
theorem ready_list (g : List Pl) (dn : List Nat) : ((leftD g dn).filter fun kv => decide (iD kv.2 = 0)).map (fun kv => keyD kv.1) = nD (readyP g dn) := by
  unfold leftD readyP nD
  rw [List.filter_map, List.map_map]
  have e : ((fun kv : Key × PyData => decide (iD kv.2 = 0)) ∘ fun p => (kN p, PyData.int (cnt g dn p : Nat))) = fun p => decide (cnt g dn p = 0) := by
    funext p
    show decide ((cnt g dn p : Int) = 0) = decide (cnt g dn p = 0)
    by_cases h : cnt g dn p = 0
    · simp [h]
    · rw [decide_eq_false h, decide_eq_false (by omega)]
  rw [e]
  rfl
theorem ready_sorted (g : List Pl) (dn : List Nat) : sortI ((readyP g dn).map fun p : Nat => (p : Int)) = (readyP g dn).map fun p : Nat => (p : Int) := by
  refine (sortI_is (List.Perm.refl _) ?_).symm
  rw [List.pairwise_map]
  have h : (readyP g dn).Pairwise (· < ·) := List.Pairwise.filter _ (List.Pairwise.filter _ List.pairwise_lt_range)
  exact h.imp fun hab => by omega
theorem nD_ints (ps : List Nat) : nD ps = (ps.map fun p : Nat => (p : Int)).map PyData.int := by unfold nD; rw [List.map_map]; rfl
theorem mvs_nodup {g : List Pl} (hg : Good g) (p : Nat) : (mvs g p).Nodup := by
  unfold mvs
  cases h : g[p]? with
  | none => exact List.nodup_nil
  | some x =>
    cases x with
    | fin w => exact List.nodup_nil
    | mv s ms => exact (hg.ok p _ h).2.2.1
theorem flat_nD (ps : List Nat) : (nD ps).all flatD = true := by rw [nD_ints]; exact flat_ints _
theorem in_nD (f : Nat) (ps : List Nat) : inF (.int (f : Nat)) (nD ps) = decide (f ∈ ps) := by
  rw [nD_ints, inF_ints]
  by_cases h : f ∈ ps
  · rw [decide_eq_true h, decide_eq_true (List.mem_map.mpr ⟨f, h, rfl⟩)]
  · rw [decide_eq_false h, decide_eq_false]
    intro z
    obtain ⟨q, hq, e⟩ := List.mem_map.mp z
    have : q = f := by omega
    subst this
    exact h hq

end
section
local macro_rules | `(tactic| walk_at "tr") => `(tactic| first | rfl | exact decide_eq_true (by omega) | exact decide_eq_false (by omega) | with_reducible assumption | (simp only [Bool.and_eq_true, Bool.and_eq_false_iff, Bool.or_eq_true, Bool.or_eq_false_iff, Bool.not_eq_true', Bool.not_eq_false', decide_eq_true_eq, decide_eq_false_iff_not]; omega) | (simp; done))
local macro_rules | `(tactic| walk_at "le") => `(tactic| first | omega | (simp only [List.length_cons, List.length_nil, List.length_append, List.length_map]; omega) | decide)
local macro_rules | `(tactic| walk_at "gt") => `(tactic| first | with_reducible assumption | with_reducible rfl | rfl)
local macro_rules | `(tactic| walk_at "op") => `(tactic| first
  | with_reducible exact plusD_ii | with_reducible exact subD_ii | with_reducible exact addI_ii | with_reducible exact ltD_ii | with_reducible exact leD_ii | with_reducible exact gtD_ii | with_reducible exact geD_ii
  | with_reducible exact eqD_ii | with_reducible exact eqD_ss | with_reducible exact eqD_is | with_reducible exact eqD_si | with_reducible exact eqD_bb | with_reducible exact neD_ii | with_reducible exact neD_ss | with_reducible exact neD_is | with_reducible exact neD_si | with_reducible exact neD_bb
  | with_reducible assumption
  | ((with_reducible apply modD_ev); omega) | ((with_reducible apply fdivD_ev); omega) | ((with_reducible apply mulD_ev); (first | exact Or.inl ⟨by omega, by omega⟩ | exact Or.inr ⟨by omega, by omega⟩))
  | ((with_reducible apply ixD_t0); walk_at "gt") | ((with_reducible apply ixD_l0); walk_at "gt") | ((with_reducible apply ixD_t1); walk_at "gt") | ((with_reducible apply ixD_l1); walk_at "gt")
  | ((with_reducible apply ixD_last); walk_at "gt") | ((with_reducible apply ixD_lastL); walk_at "gt")
  | ((with_reducible apply ixD_tN); walk_at "gt") | ((with_reducible apply ixD_lN); walk_at "gt")
  | ((with_reducible apply ixD_t); omega; walk_at "gt") | ((with_reducible apply ixD_l); omega; walk_at "gt")
  | ((with_reducible apply plusD_l); walk_at "le") | ((with_reducible apply plusD_t); walk_at "le"))
local macro_rules | `(tactic| walk_at "at") => `(tactic| first | with_reducible assumption | ((with_reducible apply atI_z); walk_at "gt") | ((with_reducible apply atI_last); walk_at "gt") | ((with_reducible apply atI_N); walk_at "gt") | ((with_reducible apply atI_i); omega; walk_at "gt") | ((with_reducible apply atI_last); walk_at "gt"))
local macro_rules | `(tactic| walk_at "ki") => `(tactic| first | with_reducible exact k_bb | with_reducible exact k_tt | with_reducible exact k_ss | with_reducible exact k_ii | with_reducible exact k_ib | with_reducible exact k_it | with_reducible exact k_is | with_reducible exact k_tb | with_reducible exact k_sb | with_reducible exact k_st | with_reducible exact k_bi | with_reducible exact k_bt | with_reducible exact k_bs | with_reducible exact k_ti | with_reducible exact k_ts | with_reducible exact k_si | with_reducible exact k_nb | with_reducible exact k_nt | with_reducible exact k_ns | with_reducible exact k_ni | with_reducible exact k_lt | with_reducible exact k_lb | with_reducible exact k_ls | with_reducible exact k_li)
local macro_rules | `(tactic| walk_at "cl") => `(tactic| with_reducible assumption)
local macro_rules | `(tactic| walk_at "bi") => `(tactic| first | with_reducible assumption | rfl)
local macro_rules | `(tactic| walk_at "lc") => `(tactic| with_reducible assumption)
local macro_rules | `(tactic| walk_at "ar") => `(tactic| first | with_reducible exact aNil_ev | ((with_reducible apply aCons_ev); (walk_at "ev"); (walk_at "ar")))
local macro_rules | `(tactic| walk_at "va") => `(tactic| first | with_reducible exact vNil_ev | ((with_reducible apply vCons_ev); ((with_reducible apply vE_ev); (walk_at "ev")); (walk_at "va")) | ((with_reducible apply vCons_ev); ((with_reducible apply vR_ev); rfl); (walk_at "va")))
local macro_rules | `(tactic| walk_at "os") => `(tactic| first | with_reducible exact oNone_ev | ((with_reducible apply oSome_ev); (walk_at "ev")))
local macro_rules | `(tactic| walk_at "ls") => `(tactic| first
  | ((with_reducible apply lLst_ev); (walk_at "ar"); (walk_at "le"))
  | ((with_reducible apply lList_ev); (walk_at "ev"); rfl)
  | ((with_reducible apply lListV_ev); rfl)
  | ((with_reducible apply lListRg_ev); (walk_at "ev"); omega)
  | ((with_reducible apply lListRg2_ev); (walk_at "ev"); (walk_at "ev"); omega; omega)
  | ((with_reducible apply lRep_ev); (walk_at "ar"); (walk_at "ev"); omega; (walk_at "le"))
  | ((with_reducible apply lLc_ev); (walk_at "it"); (walk_at "lc"))
  | ((with_reducible apply lKeys_ev); rfl))
local macro_rules | `(tactic| walk_at "it") => `(tactic| first
  | ((with_reducible apply iSq_ev); (walk_at "ev"); rfl)
  | ((with_reducible apply iRg1_ev); (walk_at "ev"); omega)
  | ((with_reducible apply iRg2_ev); (walk_at "ev"); (walk_at "ev"); omega; omega)
  | ((with_reducible apply iEn_ev); (walk_at "ev"))
  | ((with_reducible apply iZp_T); (walk_at "ev"); (walk_at "ev"))
  | ((with_reducible apply iZp_L); (walk_at "ev"); (walk_at "ev")))
local macro_rules | `(tactic| walk_at "dg") => `(tactic| with_reducible assumption)
local macro_rules | `(tactic| walk_at "dl") => `(tactic| with_reducible exact lDnew_ev)
local macro_rules | `(tactic| walk_at "nt") => `(tactic| first | with_reducible exact uNil_ev | ((with_reducible apply uD_ev); (walk_at "ev"); (walk_at "nt")) | ((with_reducible apply uL_ev); (walk_at "ls"); (walk_at "nt")) | ((with_reducible apply uC_ev); (walk_at "dl"); (walk_at "nt")))
local macro_rules | `(tactic| walk_at "ev") => `(tactic| first
  | ((with_reducible apply eVar_ev); rfl) | with_reducible exact eC_ev
  | ((with_reducible apply eOp_ev); (walk_at "ev"); (walk_at "ev"); (walk_at "op"))
  | ((with_reducible apply eUn_ev); (walk_at "ev"); rfl)
  | ((with_reducible apply eCB_ev); (walk_at "ar"); (walk_at "bi"))
  | ((with_reducible apply eTup_ev); (walk_at "ar"); (walk_at "le"))
  | ((with_reducible apply eL_ev); (walk_at "ls"))
  | ((with_reducible apply eCall_ev); (walk_at "va"); (walk_at "cl"))
  | ((with_reducible apply eCallK_ev); (walk_at "va"); (walk_at "va"); (walk_at "cl"))
  | ((with_reducible apply eCallD_ev); (walk_at "va"); (walk_at "cl"))
  | ((with_reducible apply eIsN_ev); (walk_at "ev"))
  | ((with_reducible apply eNotN_ev); (walk_at "ev"))
  | ((with_reducible apply eIsi_ev); (walk_at "ev"); (walk_at "ki"))
  | ((with_reducible apply eNot_ev); (walk_at "ev"); rfl)
  | ((with_reducible apply eChain_B); (walk_at "ev"); (walk_at "ev"); (walk_at "op"); (walk_at "ev"); (walk_at "op"))
  | ((with_reducible apply eSl_ev); (walk_at "ev"); (walk_at "os"); (walk_at "os"); rfl)
  | ((with_reducible apply eIxV_ev); rfl; (walk_at "ev"); rfl; (walk_at "at"))
  | ((with_reducible apply eLenV_ev); rfl)
  | ((with_reducible apply eTupleV_ev); rfl)
  | ((with_reducible apply eSlV_ev); rfl; (walk_at "os"); (walk_at "os"); rfl)
  | ((with_reducible apply eInV_ev); (walk_at "ev"); rfl; (walk_at "op"))
  | ((with_reducible apply eDget_ev); rfl; (walk_at "ev"); rfl; with_reducible exact keyO_i; (walk_at "dg"))
  | ((with_reducible apply eDin_ev); (walk_at "ev"); rfl; with_reducible exact keyO_i)
  | ((with_reducible apply eDnot_ev); (walk_at "ev"); rfl; with_reducible exact keyO_i)
  | ((with_reducible apply eLenD_ev); rfl)
  | ((with_reducible apply eIf_D); (walk_at "be"); (first | ((with_reducible apply cd_T); (walk_at "tr"); (walk_at "ev")) | ((with_reducible apply cd_F); (walk_at "tr"); (walk_at "ev"))))
  | ((with_reducible apply eAnd_F); (walk_at "ev"); rfl)
  | ((with_reducible apply eAnd_T); (walk_at "ev"); rfl; (walk_at "ev"))
  | ((with_reducible apply eOr_T); (walk_at "ev"); rfl)
  | ((with_reducible apply eOr_F); (walk_at "ev"); rfl; (walk_at "ev"))
  | ((with_reducible apply eAnd_B); (walk_at "ev"); (intro _; walk_at "ev"))
  | ((with_reducible apply eOr_B); (walk_at "ev"); (intro _; walk_at "ev")))
local macro_rules | `(tactic| walk_at "be") => `(tactic| first
  | with_reducible exact bYes_ev
  | ((with_reducible apply bTest_ev); (walk_at "ev"))
  | ((with_reducible apply bTru_ev); (walk_at "ev"); rfl)
  | ((with_reducible apply bTruV_ev); rfl)
  | ((with_reducible apply bTruD_ev); rfl)
  | ((with_reducible apply bNot_ev); (walk_at "be"))
  | ((with_reducible apply bIf_D); (walk_at "be"); (first | ((with_reducible apply cd_T); (walk_at "tr"); (walk_at "be")) | ((with_reducible apply cd_F); (walk_at "tr"); (walk_at "be"))))
  | ((with_reducible apply bAnd_D); (walk_at "be"); (first | ((with_reducible apply cd_T); (walk_at "tr"); (walk_at "be")) | ((with_reducible apply cd_F); (walk_at "tr"); rfl)))
  | ((with_reducible apply bOr_D); (walk_at "be"); (first | ((with_reducible apply cd_T); (walk_at "tr"); rfl) | ((with_reducible apply cd_F); (walk_at "tr"); (walk_at "be"))))
  | ((with_reducible apply bAnd_B); (walk_at "be"); (intro _; walk_at "be"))
  | ((with_reducible apply bOr_B); (walk_at "be"); (intro _; walk_at "be")))
local macro_rules | `(tactic| walk_at "ex") => `(tactic| first
  | with_reducible exact xNext_ev | with_reducible exact xBreak_ev | with_reducible exact xCont_ev
  | ((with_reducible apply xAsg_ev); (walk_at "ev"))
  | ((with_reducible apply xAsgG_ev); (walk_at "ev"); rfl)
  | ((with_reducible apply xAsgL_ev); (walk_at "ls"))
  | ((with_reducible apply xNewL_ev); (walk_at "ls"))
  | ((with_reducible apply xAug_ev); rfl; (walk_at "ev"); (walk_at "op"))
  | ((with_reducible apply xDrop_ev); (walk_at "ev"))
  | ((with_reducible apply xRet_ev); (walk_at "ev"))
  | ((with_reducible apply xApp_ev); rfl; (walk_at "ev"); rfl; (walk_at "le"))
  | ((with_reducible apply xSetI_ev); (walk_at "ev"); rfl; (walk_at "ev"); rfl; exact ixN_in (by walk_at "le"))
  | ((with_reducible apply xPar_ev); (walk_at "ev"); (walk_at "ev"))
  | ((with_reducible apply xParDL_ev); (walk_at "ev"); (walk_at "ls"))
  | ((with_reducible apply xParLD_ev); (walk_at "ls"); (walk_at "ev"))
  | ((with_reducible apply xParLL_ev); (walk_at "ls"); (walk_at "ls"))
  | ((with_reducible apply xPar3_ev); (walk_at "ar"))
  | ((with_reducible apply xDput_ev); (walk_at "ev"); rfl; (walk_at "ev"); rfl; with_reducible exact keyO_i; (walk_at "le"))
  | ((with_reducible apply xDpop_ev); rfl; (walk_at "ev"); rfl; with_reducible exact keyO_i; (walk_at "dg"))
  | ((with_reducible apply xAsgC_ev); (walk_at "dl"))
  | ((with_reducible apply xTup2_ev); (walk_at "nt"))
  | ((with_reducible apply xFrz_O); rfl; (walk_at "ex"))
  | ((with_reducible apply xFrz_D); rfl; (walk_at "ex"))
  | ((with_reducible apply xIf_D); (walk_at "be"); (first | ((with_reducible apply cd_T); (walk_at "tr"); (walk_at "ex")) | ((with_reducible apply cd_F); (walk_at "tr"); (walk_at "ex"))))
  | ((with_reducible apply xSeq_ev); (walk_at "ex"); (walk_at "ex")))
local macro_rules | `(tactic| walk_at "st") => `(tactic| ((first | refine rt_seq (by walk_at "ex") ?_ | refine seq_step (by walk_at "ex") ?_); try simp only [List.set_cons_succ, List.set_cons_zero]))
local macro_rules | `(tactic| walk_at "rt") => `(tactic| refine rt_is (rt_ret (by walk_at "ev")) ?_ ?_)
local macro_rules | `(tactic| walk_at "yes") => `(tactic| (first | refine rt_now (rt_T (by walk_at "be") (by walk_at "tr") ?_) | refine rt_T (by walk_at "be") (by walk_at "tr") ?_))
local macro_rules | `(tactic| walk_at "noo") => `(tactic| (first | refine rt_now (rt_F (by walk_at "be") (by walk_at "tr") ?_) | refine rt_F (by walk_at "be") (by walk_at "tr") ?_))
local macro_rules | `(tactic| walk_at "cq") => `(tactic| with_reducible assumption)
local macro_rules | `(tactic| walk_at "le") => `(tactic| first | omega | (simp only [List.length_cons, List.length_nil, List.length_append, List.length_map, List.length_set, List.length_range, nD_len]; omega) | decide)
local macro_rules | `(tactic| walk_at "sr") => `(tactic| repeat (first | with_reducible exact SetR.z | with_reducible apply SetR.s))
local macro_rules | `(tactic| walk_at "ha") => `(tactic| first | walk_at "op" | walk_at "at" | walk_at "bi" | walk_at "dg" | with_reducible rfl | rfl)
local macro_rules | `(tactic| walk_at "v") => `(tactic| first
  | with_reducible refine wp_seq ?_
  | with_reducible refine seqK_nx ?_
  | ((with_reducible apply wp_eVar); (rfl))
  | with_reducible refine wp_eC ?_
  | with_reducible refine wp_eOp ?_
  | with_reducible refine has_some ?_
  | ((with_reducible apply hasG_nm); (walk_at "sr"))
  | ((with_reducible apply hasG_tp); (rfl); (rfl))
  | with_reducible refine hasG_cons ?_
  | with_reducible refine hasG_nil ?_
  | ((with_reducible apply has_of); (walk_at "ha"))
  | with_reducible refine wp_eCall ?_
  | with_reducible refine wp_vE ?_
  | ((with_reducible apply wp_vR); (rfl))
  | with_reducible refine wp_vNil ?_
  | ((with_reducible apply fok_eq); (walk_at "cq"))
  | with_reducible refine wp_asg ?_
  | with_reducible refine wp_asgG ?_
  | with_reducible refine wp_asgL ?_
  | with_reducible refine wp_if ?_
  | with_reducible refine wp_ret ?_
  | with_reducible refine seqK_ret ?_
  | with_reducible refine retK_ret ?_
  | with_reducible refine wp_bTest ?_
  | with_reducible refine wp_bTru ?_
  | with_reducible refine wp_bNot ?_
  | with_reducible refine wp_eCB ?_
  | with_reducible refine wp_aCons ?_
  | with_reducible refine wp_aNil ?_
  | with_reducible refine wp_eUn ?_
  | with_reducible refine wp_eTup ?_
  | with_reducible refine wp_eL ?_
  | with_reducible refine wp_lLst ?_
  | with_reducible refine wp_eIf ?_
  | with_reducible refine wp_for ?_
  | with_reducible refine wp_iWipe ?_
  | with_reducible refine wp_iSq ?_
  | with_reducible refine wp_iRg1 ?_
  | with_reducible refine wp_iRg2 ?_
  | with_reducible refine wp_keep ?_
  | with_reducible refine wp_pre ?_
  | with_reducible refine wp_next ?_
  | with_reducible refine wp_break ?_
  | with_reducible refine wp_cont ?_
  | with_reducible refine bodyK_nx ?_
  | with_reducible refine bodyK_ct ?_
  | with_reducible refine bodyK_bk ?_
  | with_reducible refine bodyK_ret ?_
  | with_reducible refine seqK_bk ?_
  | with_reducible refine seqK_ct ?_
  | with_reducible refine retK_nx ?_
  | with_reducible refine wp_forNil ?_
  | with_reducible refine wp_eIsN ?_
  | with_reducible refine wp_eNotN ?_
  | with_reducible refine wp_eNot ?_
  | ((with_reducible apply wp_eIxV); (rfl))
  | ((with_reducible apply wp_eLenV); (rfl))
  | ((with_reducible apply wp_eTupleV); (rfl))
  | ((with_reducible apply wp_eSlV); (rfl))
  | with_reducible refine wp_eSl ?_
  | with_reducible refine wp_oNone ?_
  | with_reducible refine wp_oSome ?_
  | with_reducible refine wp_eInV ?_
  | ((with_reducible apply wp_ePopO); (rfl); (walk_at "gt"); (walk_at "sr"))
  | ((with_reducible apply wp_eDget); (exact ⟨_, rfl⟩))
  | ((with_reducible apply wp_eDget2); (exact ⟨_, rfl⟩))
  | with_reducible refine wp_eDin ?_
  | with_reducible refine wp_eDnot ?_
  | ((with_reducible apply wp_eLenD); (rfl))
  | with_reducible refine wp_eIsi ?_
  | with_reducible refine wp_eCallK ?_
  | with_reducible refine wp_eCallD ?_
  | with_reducible refine wp_lList ?_
  | with_reducible refine wp_lListRg ?_
  | with_reducible refine wp_lListRg2 ?_
  | with_reducible refine wp_iEn ?_
  | with_reducible refine wp_lRep ?_
  | ((with_reducible apply wp_lListV); (rfl))
  | ((with_reducible apply wp_lKeys); (rfl))
  | with_reducible refine wp_lLc ?_
  | with_reducible refine wp_bYes ?_
  | ((with_reducible apply wp_bTruV); (rfl))
  | ((with_reducible apply wp_bTruD); (rfl))
  | with_reducible refine wp_bIf ?_
  | with_reducible refine wp_lDnew ?_
  | with_reducible refine wp_lDc ?_
  | with_reducible refine wp_asgC ?_
  | with_reducible refine wp_newL ?_
  | with_reducible refine wp_retN ?_
  | with_reducible refine wp_drop ?_
  | ((with_reducible apply wp_app); (exact ⟨_, rfl⟩))
  | with_reducible refine wp_setI ?_
  | ((with_reducible apply wp_aug); (rfl))
  | ((with_reducible apply wp_frzO); (rfl); (walk_at "sr"))
  | ((with_reducible apply wp_frzD); (rfl))
  | with_reducible refine wp_par ?_
  | with_reducible refine wp_parDL ?_
  | with_reducible refine wp_parLD ?_
  | with_reducible refine wp_parLL ?_
  | with_reducible refine wp_par3 ?_
  | with_reducible refine wp_dput ?_
  | ((with_reducible apply wp_dpop); (exact ⟨_, rfl⟩))
  | with_reducible refine wp_tup2 ?_
  | with_reducible refine wp_tup3 ?_
  | with_reducible refine wp_tup4 ?_
  | with_reducible refine wp_uNil ?_
  | with_reducible refine wp_uD ?_
  | with_reducible refine wp_uL ?_
  | with_reducible refine wp_uC ?_
  | with_reducible refine wp_eChain ?_
  | (with_reducible refine wp_bAnd ?_; (repeat walk_at "v"); walk_at "br")
  | (with_reducible refine wp_bOr ?_; (repeat walk_at "v"); walk_at "br")
  | (with_reducible refine wp_eAnd ?_; (repeat walk_at "v"); walk_at "br")
  | (with_reducible refine wp_eOr ?_; (repeat walk_at "v"); walk_at "br")
  | with_reducible refine wp_bAndB ?_
  | with_reducible refine wp_bOrB ?_
  | with_reducible refine wp_eAndB ?_
  | with_reducible refine wp_eOrB ?_
  | walk_at "xx")
local macro_rules | `(tactic| walk_at "nk") => `(tactic| ((repeat walk_at "v"); first | exact ⟨rfl, rfl, rfl⟩ | exact ⟨rfl, rfl, by walk_at "op"⟩))
local macro_rules | `(tactic| walk_at "lt2") => `(tactic| first | omega | exact ⟨by omega, by omega⟩ | (simp only [List.length_cons, List.length_nil, List.length_append, List.length_map, List.length_set, nD_len]; omega))
local macro_rules | `(tactic| walk_at "ky") => `(tactic| first | with_reducible exact keyO_i | with_reducible exact keyO_s | rfl)
local macro_rules | `(tactic| walk_at "xx") => `(tactic| first
  | refine ⟨_, by walk_at "sr", ?_⟩
  | refine ⟨_, by with_reducible rfl, by omega, ?_⟩
  | refine ⟨_, by with_reducible rfl, by omega, by walk_at "le", ?_⟩
  | refine ⟨_, by with_reducible rfl, ?_⟩
  | ((with_reducible apply and_le); (walk_at "le"))
  | ((with_reducible apply and_bk); (rfl))
  | refine ⟨_, _, by rfl, by with_reducible rfl, ?_⟩
  | refine ⟨_, _, by rfl, by walk_at "ky", ?_⟩
  | refine ⟨_, _, by rfl, by walk_at "le", by walk_at "sr", ?_⟩
  | refine ⟨⟨_, by rfl⟩, ?_⟩
  | refine ⟨_, _, _, by with_reducible rfl, by rfl, by walk_at "lt2", by walk_at "sr", ?_⟩
  | refine ⟨_, _, _, by rfl, by walk_at "ky", by walk_at "lt2", by walk_at "sr", ?_⟩
  | refine ⟨_, _, _, by rfl, by walk_at "ky", by walk_at "gt", by walk_at "sr", ?_⟩
  | refine ⟨_, _, by walk_at "sr", by walk_at "sr", ?_⟩
  | refine ⟨_, _, _, _, by rfl, by walk_at "sr", by walk_at "sr", ?_⟩
  | refine ⟨_, _, _, _, _, _, by rfl, by walk_at "sr", by walk_at "sr", by walk_at "sr", ?_⟩
  | refine ⟨_, _, _, _, _, _, _, _, by rfl, by walk_at "sr", by walk_at "sr", by walk_at "sr", by walk_at "sr", ?_⟩
  | refine ⟨_, by walk_at "ki", ?_⟩
  | refine ⟨_, _, by with_reducible rfl, by with_reducible rfl, ?_⟩
  | refine ⟨_, _, by with_reducible rfl, by with_reducible rfl, by omega, by omega, ?_⟩
  | refine ⟨_, _, by walk_at "op", (fun _ => by walk_at "nk"), ?_⟩
  | refine ⟨_, _, by with_reducible rfl, (fun _ => by walk_at "nk"), ?_⟩
  | refine ⟨_, (fun _ => by walk_at "nk"), ?_⟩
  | refine ⟨_, by rfl, ?_⟩)
local macro_rules | `(tactic| walk_at "br") => `(tactic| first | ((with_reducible apply br_T); (walk_at "tr")) | ((with_reducible apply br_F); (walk_at "tr")))
local macro_rules | `(tactic| walk_at "vfn") => `(tactic| refine fok_fn (by (simp only [List.length_cons, List.length_nil, Nat.reduceAdd, Nat.reduceSub, List.replicate_succ, List.replicate_zero, List.cons_append, List.nil_append]; try rfl)) ?_)
local macro_rules | `(tactic| walk_at "vc") => `(tactic| repeat (first | walk_at "v" | walk_at "br" | with_reducible exact ⟨rfl, rfl, rfl⟩ | with_reducible exact ⟨rfl, rfl⟩))
local macro_rules | `(tactic| walk_at "wi") => `(tactic| (simp only [wipeV, List.set_cons_succ, List.set_cons_zero]; try rfl))
local macro_rules | `(tactic| walk_at "op") => `(tactic| ((with_reducible apply ixD_g); assumption))
local macro_rules | `(tactic| walk_at "bi") => `(tactic| with_reducible exact lenD_g)
local macro_rules | `(tactic| walk_at "bi") => `(tactic| with_reducible exact lenD_n)
local macro_rules | `(tactic| walk_at "cl") => `(tactic| ((with_reducible apply draw_eq) <;> first | omega | assumption))
local macro_rules | `(tactic| walk_at "cl") => `(tactic| ((with_reducible apply dworth_eq) <;> first | omega | assumption))
def m_moves_of : X :=
  (xSeq (xAsgG (gTp 2 (gsCons (gNm 2) (gsCons (gNm 3) gsNil))) (eOp ixD (eVar 0) (eVar 1)))
  (xRet (eIf (bTest (eOp eqD (eVar 2) (eC (.str "end")))) (eTup aNil) (eVar 3))))
def f_moves_of : FS := fnS 4 (m_moves_of )

def b_order_of_1 (F_moves_of : FS) : X :=
  (xIf (bTest (eOp (inFD false) (eVar 6) (eCall F_moves_of (vCons (vE (eVar 0)) (vCons (vE (eVar 2)) vNil)))))
        (xDput 1 (eVar 2) (eOp subD (eDget 1 (eVar 2)) (eC (.int 1))))
        xNext)
def b_order_of_2 (F_moves_of : FS) : X :=
  (xSeq (xItems 1 4 [2, 5] (gTp 2 (gsCons (gNm 2) (gsCons (gNm 5) gsNil))) (bTest (eOp eqD (eVar 5) (eC (.int 0)))) (eVar 2))
    (xSeq (xIf (bNot (bTru (eVar 4)))
      (xRet (eC .none))
      xNext)
    (xSeq (xAsgG (gSt 2 1 (gsCons (gNm 6) (gsCons (gNm 7) gsNil))) (eCB sortedD (aCons (eVar 4) aNil)))
    (xSeq (xApp 3 (eVar 6))
    (xSeq (xDpop 1 (eVar 6))
    (xFor (iWipe [2, 4, 5, 7] (iSq (eL (lKeys 1)))) (gNm 2)
      (xKeep [2, 4, 5, 7] (b_order_of_1 F_moves_of))))))))
def m_order_of (F_moves_of : FS) : X :=
  (xSeq (xAsgC 1 (lDc [2] (iRg1 (eCB lenD (aCons (eVar 0) aNil))) (gNm 2) bYes (eVar 2) (eCB lenD (aCons (eCall F_moves_of (vCons (vE (eVar 0)) (vCons (vE (eVar 2)) vNil))) aNil))))
  (xSeq (xAsgL 3 (lLst aNil))
  (xSeq (xPre [2, 4, 5, 6, 7] (xWhile (bTruD 1)
    (xKeep [2, 4, 5, 6, 7] (b_order_of_2 F_moves_of))))
  (xRet (eTupleV 3)))))
def f_order_of : FS := fnS 8 (m_order_of f_moves_of)

theorem gX_at {g : List Pl} {p : Nat} {x : Pl} (h : g[p]? = some x) : ixD (gD g) (.int (p : Int)) = some x.d := gD_at h
theorem nD_at {ns : List Nat} {i : Nat} {d : PyData} (h : (nD ns)[i]? = some d) : ∃ p, ns[i]? = some p ∧ d = .int (p : Nat) := by
  unfold nD at h
  rw [List.getElem?_map] at h
  cases hp : ns[i]? with
  | none => rw [hp] at h; cases h
  | some p => rw [hp] at h; exact ⟨p, rfl, (Option.some.inj h).symm⟩
theorem lenD_gD (g : List Pl) : lenD [gD g] = some (.int (g.length : Nat)) := by
  show some (PyData.int ((g.map Pl.d).length : Nat)) = _
  rw [List.length_map]
theorem lenD_nD (g : List Nat) : lenD [.tuple (nD g)] = some (.int (g.length : Nat)) := by
  show some (PyData.int ((nD g).length : Nat)) = _
  rw [nD_len]
theorem lenD_nL (g : List Nat) : lenD [.list (nD g)] = some (.int (g.length : Nat)) := by
  show some (PyData.int ((nD g).length : Nat)) = _
  rw [nD_len]
local macro_rules | `(tactic| walk_at "bi") => `(tactic| first | with_reducible exact lenD_gD _ | with_reducible exact lenD_nD _ | with_reducible exact lenD_nL _ | with_reducible exact gX_at (by assumption))
theorem moves_of_eq {g : List Pl} (st : Sg) {p : Nat} (hp : p < g.length) : f_moves_of [.dat (gD g), .dat (.int (p : Int))] st = some (.dat (.tuple (nD (mvs g p))), st) := by
  have hx : g[p]? = some g[p] := List.getElem?_eq_getElem hp
  generalize g[p] = x at hx
  rw [mvs_eq hx]
  unfold f_moves_of m_moves_of
  refine fok_is ?_
  walk_at "vfn"
  cases x with
  | fin w => walk_at "vc"
  | mv sd ms => walk_at "vc"
local macro_rules | `(tactic| walk_at "cq") => `(tactic| ((with_reducible apply moves_of_eq); first | omega | assumption))
def pq (d : PyData) : Bool := match d with
  | .tuple [_, c] => decide (iD c = 0)
  | _ => false
def pf (d : PyData) : PyData := match d with
  | .tuple [k, _] => k
  | _ => .none
theorem mem_leftD {g : List Pl} {dn : List Nat} {kv : Key × PyData} (h : kv ∈ leftD g dn) : ∃ p, p ∈ restP g dn ∧ kv = (kN p, .int (cnt g dn p : Nat)) := by
  obtain ⟨p, hp, e⟩ := List.mem_map.mp h
  exact ⟨p, hp, e.symm⟩
theorem items_eq {g : List Pl} {dn : List Nat} {st : Sg} {l : Lo} {w2 w4 w5 w6 w7 : Vl} (h2 : plainV w2 = true) (h5 : plainV w5 = true) (hl : l = [.dat (gD g), .dct (leftD g dn), w2, .own (nD dn), w4, w5, w6, w7]) (hz : g.length ≤ 1000) :
    xItems 1 4 [2, 5] (gTp 2 (gsCons (gNm 2) (gsCons (gNm 5) gsNil))) (bTest (eOp eqD (eVar 5) (eC (.int 0)))) (eVar 2) l st = some (.nx, l.set 4 (.dat (.list (nD (readyP g dn)))), st) := by
  subst hl
  refine xItems_ev rfl (by simp [plainAt, h2, h5]) ?_ ?_ (by simp)
  · have h1 : (leftD g dn).length = (restP g dn).length := List.length_map _
    have h2 : (restP g dn).length ≤ g.length := by
      unfold restP
      exact Nat.le_trans (List.length_filter_le _ _) (by rw [List.length_range]; exact Nat.le_refl _)
    omega
  · rw [lcL_pure (q := pq) (f := pf) ?_]
    · congr 2
      rw [← ready_list, List.filter_map, List.map_map]
      rfl
    · intro d hd
      obtain ⟨kv, hkv, rfl⟩ := List.mem_map.mp hd
      obtain ⟨p, hp, rfl⟩ := mem_leftD hkv
      refine ⟨_, rfl, ?_, ?_, fun _ => ?_⟩
      · exact backV_id (by simp [wipeV]) fun j hj => match j, hj with
        | 0, _ => rfl
        | 1, _ => rfl
        | 2, hj => absurd (by simp) hj
        | 3, _ => rfl
        | 4, _ => rfl
        | 5, hj => absurd (by simp) hj
        | 6, _ => rfl
        | 7, _ => rfl
        | n + 8, _ => rfl
      · refine Eq.trans (by walk_at "be") ?_
        rfl
      · rfl
theorem in_mvs (f : Nat) (ps : List Nat) : inFD false (.int (f : Int)) (.tuple (nD ps)) = some (.bool (decide (f ∈ ps))) := by
  show (if (nD ps).all flatD = true then some (PyData.bool (if false = true then !inF (.int (f : Int)) (nD ps) else inF (.int (f : Int)) (nD ps))) else none) = _
  rw [if_pos (flat_nD ps), if_neg Bool.false_ne_true]
  have := in_nD f ps
  rw [this]
theorem sortD_ready (g : List Pl) (dn : List Nat) : sortedD [.list (nD (readyP g dn))] = some (.list (nD (readyP g dn))) := by
  rw [nD_ints, sortedD_i, ready_sorted]
theorem first_rest {f : Nat} {r : List Nat} {l : Lo} (hz : r.length ≤ 1000) : gSt 2 1 (gsCons (gNm 6) (gsCons (gNm 7) gsNil)) (.list (nD (f :: r))) l = some ((l.set 6 (.dat (.int (f : Int)))).set 7 (.dat (.list (nD r)))) := by
  have hl : (nD (f :: r)).length = r.length + 1 := nD_len _
  show (if 2 ≤ (nD (f :: r)).length + 1 ∧ (nD (f :: r)).length ≤ 16384 then _ else none) = _
  rw [if_pos (by omega), hl, show r.length + 1 + 1 - 2 = (nD r).length by rw [nD_len]; omega]
  show gsCons (gNm 6) (gsCons (gNm 7) gsNil) ([.int (f : Int)] ++ [.list ((nD r).take (nD r).length)] ++ (nD r).drop (nD r).length) l = _
  rw [List.take_length, List.drop_length]
  rfl

def ordL (g : List Pl) (d : List (Key × PyData)) (dn : List Nat) (w6 : Vl) : Lo := [.dat (gD g), .dct d, .no, .own (nD dn), .no, .no, w6, .no]
theorem ord_inner {g : List Pl} (hg : Good g) {dn : List Nat} {f : Nat} (hf : f ∉ dn) {st : Sg} {Q : Out → Lo → Sg → Prop} (hq : Q .nx (ordL g (leftD g (dn ++ [f])) (dn ++ [f]) (.dat (.int (f : Int)))) st) :
    Wp (xForL (gNm 2) (xKeep [2, 4, 5, 7] (b_order_of_1 f_moves_of)) (nD (restP g (dn ++ [f])))) (ordL g (midD g dn f 0) (dn ++ [f]) (.dat (.int (f : Int)))) st Q := by
  refine wp_forI (fun i l g' => l = ordL g (midD g dn f i) (dn ++ [f]) (.dat (.int (f : Int))) ∧ g' = st) ⟨rfl, rfl⟩ ?_ ?_
  · rintro i d l g' hd ⟨rfl, rfl⟩
    obtain ⟨p, hp, rfl⟩ := nD_at hd
    have hpl : p < g.length := (mem_rest.mp (List.mem_of_getElem? hp)).1
    have hmid : (midD g dn f i)[i]? = some (kN p, .int (cnt g dn p : Nat)) := by
      rw [mid_get, hp, if_neg (Nat.lt_irrefl i)]
      rfl
    have hnd : ((midD g dn f i).map (·.1)).Nodup := by
      rw [mid_keys]
      exact kN_nodup (rest_nodup g _)
    have hv : valG (midD g dn f i) (.inl (p : Int)) = some (.int (cnt g dn p : Nat)) := val_at hnd hmid
    have hc := cnt_snoc (g := g) (dn := dn) (f := f) (p := p) hf (mvs_nodup hg p)
    have hin := in_mvs f (mvs g p)
    have hlen : (midD g dn f i).length < 100000 := by
      have h1 : (midD g dn f i).length = (restP g (dn ++ [f])).length := by unfold midD; rw [List.length_mapIdx]
      have h2 : (restP g (dn ++ [f])).length ≤ g.length := by
        unfold restP
        exact Nat.le_trans (List.length_filter_le _ _) (by rw [List.length_range]; exact Nat.le_refl _)
      have := hg.len
      omega
    unfold ordL b_order_of_1
    walk_at "vc"
   
    refine br_C (fun hm => ?_) (fun hm => ?_)
    · rw [if_pos (of_decide_eq_true hm)] at hc
      walk_at "vc"
     
      refine ⟨?_, rfl⟩
      have e1 : putG (midD g dn f i) (.inl (p : Int)) (.int ((cnt g dn p : Nat) - 1 : Int)) = (midD g dn f i).set i (kN p, .int ((cnt g dn p : Nat) - 1 : Int)) := put_at hnd hmid
      have e2 : ((cnt g dn p : Nat) - 1 : Int) = (cnt g (dn ++ [f]) p : Nat) := by omega
      rw [← mid_next hp, ← e2, ← e1]
      rfl
    · rw [if_neg (of_decide_eq_false hm)] at hc
      walk_at "vc"
      refine ⟨?_, rfl⟩
      rw [← mid_same hp (by omega)]
      rfl
  · rintro l g' ⟨rfl, rfl⟩
    rw [nD_len, mid_all]
    exact hq
theorem order_of_eq {g : List Pl} (hg : Good g) (st : Sg) : f_order_of [.dat (gD g)] st = some (.dat (ordD (ordOf g)), st) := by
  have hl := hg.len
  unfold f_order_of m_order_of
  refine fok_is ?_
  walk_at "vfn"
  walk_at "vc"
  rw [Int.toNat_natCast, rng_nat]
  refine dcw_pure (xs := List.range g.length) (fun p => .int (p : Nat)) kN (fun _ => true) (fun p => .int ((mvs g p).length : Nat)) (by rfl) (by rfl) (by rw [List.length_range]; omega) (by walk_at "wi") (fun p hp => ?_) ?_ ?_
  · have hp := List.mem_range.mp hp
    walk_at "vc"
    refine ⟨⟨rfl, rfl, rfl⟩, fun _ => ?_⟩
    walk_at "vc"
    refine ⟨⟨rfl, rfl, rfl⟩, ?_⟩
    walk_at "vc"
  · rw [List.filter_eq_self.mpr (by simp)]
    exact kN_nodup List.nodup_range
  · rw [List.filter_eq_self.mpr (by simp), ← left_zero]
    walk_at "vc"
    refine wp_while (fun dn => ordL g (leftD g dn) dn .no) (fun _ => st) (fun dn => dn.Nodup ∧ (∀ p ∈ dn, p < g.length) ∧ ordGo g (g.length - dn.length) dn = ordOf g) (fun dn => g.length - dn.length) [] ⟨List.nodup_nil, by simp, rfl⟩ (by simp; omega) ?_
    rintro dn ⟨h1, h2, h3⟩
    have hr := rest_len h1 h2
    unfold ordL
    walk_at "vc"
    rw [left_empty]
    refine br_C (fun hb => ?_) (fun hb => ?_)
    · unfold b_order_of_2
      have hne : restP g dn ≠ [] := fun z => by rw [z] at hb; cases hb
      have hlt : dn.length < g.length := by
        have : 0 < (restP g dn).length := List.length_pos_iff.mpr hne
        omega
      rw [show g.length - dn.length = (g.length - dn.length - 1) + 1 by omega, ordGo] at h3
      walk_at "v"
      walk_at "v"
      refine wp_eq (items_eq rfl rfl rfl (by omega)) ?_
      cases hq : readyP g dn with
      | nil =>
        rw [hq] at h3
        walk_at "vc"
        rw [← h3]
        exact ⟨rfl, rfl⟩
      | cons f r =>
        rw [hq] at h3
        have hs := sortD_ready g dn
        rw [hq] at hs
        obtain ⟨⟨f1, f2⟩, f3⟩ := mem_ready.mp (show f ∈ readyP g dn by rw [hq]; simp)
        have hrl : (f :: r).length ≤ (restP g dn).length := by rw [← hq]; exact List.length_filter_le _ _
        have hdl : dn.length < 100000 := by omega
        have hkey : (valG (leftD g dn) (.inl (f : Int))).isSome = true := by
          obtain ⟨i, hi⟩ := List.mem_iff_getElem?.mp (mem_rest.mpr ⟨f1, f2⟩)
          have := val_at (kvs := leftD g dn) (k := kN f) (i := i) (v := .int (cnt g dn f : Nat)) (by unfold leftD; rw [List.map_map]; exact kN_nodup (rest_nodup g dn)) (by unfold leftD; rw [List.getElem?_map, hi]; rfl)
          show (valG (leftD g dn) (kN f)).isSome = true
          rw [this]
          rfl
        walk_at "vc"
        refine has_of (first_rest (by simp at hrl; omega)) ?_
        simp only [List.set_cons_succ, List.set_cons_zero]
        walk_at "vc"
        have ed : dropG (leftD g dn) (Sum.inl (f : Int)) = midD g dn f 0 := left_drop g dn f
        have ek : (midD g dn f 0).map (fun kv => keyD kv.1) = nD (restP g (dn ++ [f])) := by
          have := congrArg (List.map keyD) (mid_keys g dn f 0)
          rw [List.map_map, List.map_map] at this
          exact this
        rw [ed, ek]
        have ea : nD dn ++ [PyData.int (f : Int)] = nD (dn ++ [f]) := by unfold nD; rw [List.map_append]; rfl
        rw [ea]
        refine ord_inner hg f2 ?_
        refine ⟨dn ++ [f], rfl, rfl, ⟨?_, ?_, ?_⟩, by rw [List.length_append]; simp; omega⟩
        · rw [List.nodup_append]
          exact ⟨h1, by simp, fun a ha b hb z => by simp at hb; subst hb; subst z; exact f2 ha⟩
        · intro p hp
          rcases List.mem_append.mp hp with hp | hp
          · exact h2 p hp
          · simp at hp; subst hp; exact f1
        · rw [← h3, List.length_append, List.length_singleton, Nat.sub_add_eq]
    · have : restP g dn = [] := by
        cases hz : restP g dn with
        | nil => rfl
        | cons => rw [hz] at hb; cases hb
      rw [this] at hr
      walk_at "vc"
      rw [show g.length - dn.length = 0 by simp at hr; omega] at h3
      rw [← h3]
      exact ⟨rfl, rfl⟩

end
section
local macro_rules | `(tactic| walk_at "tr") => `(tactic| first | rfl | exact decide_eq_true (by omega) | exact decide_eq_false (by omega) | with_reducible assumption | (simp only [Bool.and_eq_true, Bool.and_eq_false_iff, Bool.or_eq_true, Bool.or_eq_false_iff, Bool.not_eq_true', Bool.not_eq_false', decide_eq_true_eq, decide_eq_false_iff_not]; omega) | (simp; done))
local macro_rules | `(tactic| walk_at "le") => `(tactic| first | omega | (simp only [List.length_cons, List.length_nil, List.length_append, List.length_map]; omega) | decide)
local macro_rules | `(tactic| walk_at "gt") => `(tactic| first | with_reducible assumption | with_reducible rfl | rfl)
local macro_rules | `(tactic| walk_at "op") => `(tactic| first
  | with_reducible exact plusD_ii | with_reducible exact subD_ii | with_reducible exact addI_ii | with_reducible exact ltD_ii | with_reducible exact leD_ii | with_reducible exact gtD_ii | with_reducible exact geD_ii
  | with_reducible exact eqD_ii | with_reducible exact eqD_ss | with_reducible exact eqD_is | with_reducible exact eqD_si | with_reducible exact eqD_bb | with_reducible exact neD_ii | with_reducible exact neD_ss | with_reducible exact neD_is | with_reducible exact neD_si | with_reducible exact neD_bb
  | with_reducible assumption
  | ((with_reducible apply modD_ev); omega) | ((with_reducible apply fdivD_ev); omega) | ((with_reducible apply mulD_ev); (first | exact Or.inl ⟨by omega, by omega⟩ | exact Or.inr ⟨by omega, by omega⟩))
  | ((with_reducible apply ixD_t0); walk_at "gt") | ((with_reducible apply ixD_l0); walk_at "gt") | ((with_reducible apply ixD_t1); walk_at "gt") | ((with_reducible apply ixD_l1); walk_at "gt")
  | ((with_reducible apply ixD_last); walk_at "gt") | ((with_reducible apply ixD_lastL); walk_at "gt")
  | ((with_reducible apply ixD_tN); walk_at "gt") | ((with_reducible apply ixD_lN); walk_at "gt")
  | ((with_reducible apply ixD_t); omega; walk_at "gt") | ((with_reducible apply ixD_l); omega; walk_at "gt")
  | ((with_reducible apply plusD_l); walk_at "le") | ((with_reducible apply plusD_t); walk_at "le"))
local macro_rules | `(tactic| walk_at "at") => `(tactic| first | with_reducible assumption | ((with_reducible apply atI_z); walk_at "gt") | ((with_reducible apply atI_last); walk_at "gt") | ((with_reducible apply atI_N); walk_at "gt") | ((with_reducible apply atI_i); omega; walk_at "gt") | ((with_reducible apply atI_last); walk_at "gt"))
local macro_rules | `(tactic| walk_at "ki") => `(tactic| first | with_reducible exact k_bb | with_reducible exact k_tt | with_reducible exact k_ss | with_reducible exact k_ii | with_reducible exact k_ib | with_reducible exact k_it | with_reducible exact k_is | with_reducible exact k_tb | with_reducible exact k_sb | with_reducible exact k_st | with_reducible exact k_bi | with_reducible exact k_bt | with_reducible exact k_bs | with_reducible exact k_ti | with_reducible exact k_ts | with_reducible exact k_si | with_reducible exact k_nb | with_reducible exact k_nt | with_reducible exact k_ns | with_reducible exact k_ni | with_reducible exact k_lt | with_reducible exact k_lb | with_reducible exact k_ls | with_reducible exact k_li)
local macro_rules | `(tactic| walk_at "cl") => `(tactic| with_reducible assumption)
local macro_rules | `(tactic| walk_at "bi") => `(tactic| first | with_reducible assumption | rfl)
local macro_rules | `(tactic| walk_at "lc") => `(tactic| with_reducible assumption)
local macro_rules | `(tactic| walk_at "ar") => `(tactic| first | with_reducible exact aNil_ev | ((with_reducible apply aCons_ev); (walk_at "ev"); (walk_at "ar")))
local macro_rules | `(tactic| walk_at "va") => `(tactic| first | with_reducible exact vNil_ev | ((with_reducible apply vCons_ev); ((with_reducible apply vE_ev); (walk_at "ev")); (walk_at "va")) | ((with_reducible apply vCons_ev); ((with_reducible apply vR_ev); rfl); (walk_at "va")))
local macro_rules | `(tactic| walk_at "os") => `(tactic| first | with_reducible exact oNone_ev | ((with_reducible apply oSome_ev); (walk_at "ev")))
local macro_rules | `(tactic| walk_at "ls") => `(tactic| first
  | ((with_reducible apply lLst_ev); (walk_at "ar"); (walk_at "le"))
  | ((with_reducible apply lList_ev); (walk_at "ev"); rfl)
  | ((with_reducible apply lListV_ev); rfl)
  | ((with_reducible apply lListRg_ev); (walk_at "ev"); omega)
  | ((with_reducible apply lListRg2_ev); (walk_at "ev"); (walk_at "ev"); omega; omega)
  | ((with_reducible apply lRep_ev); (walk_at "ar"); (walk_at "ev"); omega; (walk_at "le"))
  | ((with_reducible apply lLc_ev); (walk_at "it"); (walk_at "lc"))
  | ((with_reducible apply lKeys_ev); rfl))
local macro_rules | `(tactic| walk_at "it") => `(tactic| first
  | ((with_reducible apply iSq_ev); (walk_at "ev"); rfl)
  | ((with_reducible apply iRg1_ev); (walk_at "ev"); omega)
  | ((with_reducible apply iRg2_ev); (walk_at "ev"); (walk_at "ev"); omega; omega)
  | ((with_reducible apply iEn_ev); (walk_at "ev"))
  | ((with_reducible apply iZp_T); (walk_at "ev"); (walk_at "ev"))
  | ((with_reducible apply iZp_L); (walk_at "ev"); (walk_at "ev")))
local macro_rules | `(tactic| walk_at "dg") => `(tactic| with_reducible assumption)
local macro_rules | `(tactic| walk_at "dl") => `(tactic| with_reducible exact lDnew_ev)
local macro_rules | `(tactic| walk_at "nt") => `(tactic| first | with_reducible exact uNil_ev | ((with_reducible apply uD_ev); (walk_at "ev"); (walk_at "nt")) | ((with_reducible apply uL_ev); (walk_at "ls"); (walk_at "nt")) | ((with_reducible apply uC_ev); (walk_at "dl"); (walk_at "nt")))
local macro_rules | `(tactic| walk_at "ev") => `(tactic| first
  | ((with_reducible apply eVar_ev); rfl) | with_reducible exact eC_ev
  | ((with_reducible apply eOp_ev); (walk_at "ev"); (walk_at "ev"); (walk_at "op"))
  | ((with_reducible apply eUn_ev); (walk_at "ev"); rfl)
  | ((with_reducible apply eCB_ev); (walk_at "ar"); (walk_at "bi"))
  | ((with_reducible apply eTup_ev); (walk_at "ar"); (walk_at "le"))
  | ((with_reducible apply eL_ev); (walk_at "ls"))
  | ((with_reducible apply eCall_ev); (walk_at "va"); (walk_at "cl"))
  | ((with_reducible apply eCallK_ev); (walk_at "va"); (walk_at "va"); (walk_at "cl"))
  | ((with_reducible apply eCallD_ev); (walk_at "va"); (walk_at "cl"))
  | ((with_reducible apply eIsN_ev); (walk_at "ev"))
  | ((with_reducible apply eNotN_ev); (walk_at "ev"))
  | ((with_reducible apply eIsi_ev); (walk_at "ev"); (walk_at "ki"))
  | ((with_reducible apply eNot_ev); (walk_at "ev"); rfl)
  | ((with_reducible apply eChain_B); (walk_at "ev"); (walk_at "ev"); (walk_at "op"); (walk_at "ev"); (walk_at "op"))
  | ((with_reducible apply eSl_ev); (walk_at "ev"); (walk_at "os"); (walk_at "os"); rfl)
  | ((with_reducible apply eIxV_ev); rfl; (walk_at "ev"); rfl; (walk_at "at"))
  | ((with_reducible apply eLenV_ev); rfl)
  | ((with_reducible apply eTupleV_ev); rfl)
  | ((with_reducible apply eSlV_ev); rfl; (walk_at "os"); (walk_at "os"); rfl)
  | ((with_reducible apply eInV_ev); (walk_at "ev"); rfl; (walk_at "op"))
  | ((with_reducible apply eDget_ev); rfl; (walk_at "ev"); rfl; with_reducible exact keyO_i; (walk_at "dg"))
  | ((with_reducible apply eDin_ev); (walk_at "ev"); rfl; with_reducible exact keyO_i)
  | ((with_reducible apply eDnot_ev); (walk_at "ev"); rfl; with_reducible exact keyO_i)
  | ((with_reducible apply eLenD_ev); rfl)
  | ((with_reducible apply eIf_D); (walk_at "be"); (first | ((with_reducible apply cd_T); (walk_at "tr"); (walk_at "ev")) | ((with_reducible apply cd_F); (walk_at "tr"); (walk_at "ev"))))
  | ((with_reducible apply eAnd_F); (walk_at "ev"); rfl)
  | ((with_reducible apply eAnd_T); (walk_at "ev"); rfl; (walk_at "ev"))
  | ((with_reducible apply eOr_T); (walk_at "ev"); rfl)
  | ((with_reducible apply eOr_F); (walk_at "ev"); rfl; (walk_at "ev"))
  | ((with_reducible apply eAnd_B); (walk_at "ev"); (intro _; walk_at "ev"))
  | ((with_reducible apply eOr_B); (walk_at "ev"); (intro _; walk_at "ev")))
local macro_rules | `(tactic| walk_at "be") => `(tactic| first
  | with_reducible exact bYes_ev
  | ((with_reducible apply bTest_ev); (walk_at "ev"))
  | ((with_reducible apply bTru_ev); (walk_at "ev"); rfl)
  | ((with_reducible apply bTruV_ev); rfl)
  | ((with_reducible apply bTruD_ev); rfl)
  | ((with_reducible apply bNot_ev); (walk_at "be"))
  | ((with_reducible apply bIf_D); (walk_at "be"); (first | ((with_reducible apply cd_T); (walk_at "tr"); (walk_at "be")) | ((with_reducible apply cd_F); (walk_at "tr"); (walk_at "be"))))
  | ((with_reducible apply bAnd_D); (walk_at "be"); (first | ((with_reducible apply cd_T); (walk_at "tr"); (walk_at "be")) | ((with_reducible apply cd_F); (walk_at "tr"); rfl)))
  | ((with_reducible apply bOr_D); (walk_at "be"); (first | ((with_reducible apply cd_T); (walk_at "tr"); rfl) | ((with_reducible apply cd_F); (walk_at "tr"); (walk_at "be"))))
  | ((with_reducible apply bAnd_B); (walk_at "be"); (intro _; walk_at "be"))
  | ((with_reducible apply bOr_B); (walk_at "be"); (intro _; walk_at "be")))
local macro_rules | `(tactic| walk_at "ex") => `(tactic| first
  | with_reducible exact xNext_ev | with_reducible exact xBreak_ev | with_reducible exact xCont_ev
  | ((with_reducible apply xAsg_ev); (walk_at "ev"))
  | ((with_reducible apply xAsgG_ev); (walk_at "ev"); rfl)
  | ((with_reducible apply xAsgL_ev); (walk_at "ls"))
  | ((with_reducible apply xNewL_ev); (walk_at "ls"))
  | ((with_reducible apply xAug_ev); rfl; (walk_at "ev"); (walk_at "op"))
  | ((with_reducible apply xDrop_ev); (walk_at "ev"))
  | ((with_reducible apply xRet_ev); (walk_at "ev"))
  | ((with_reducible apply xApp_ev); rfl; (walk_at "ev"); rfl; (walk_at "le"))
  | ((with_reducible apply xSetI_ev); (walk_at "ev"); rfl; (walk_at "ev"); rfl; exact ixN_in (by walk_at "le"))
  | ((with_reducible apply xPar_ev); (walk_at "ev"); (walk_at "ev"))
  | ((with_reducible apply xParDL_ev); (walk_at "ev"); (walk_at "ls"))
  | ((with_reducible apply xParLD_ev); (walk_at "ls"); (walk_at "ev"))
  | ((with_reducible apply xParLL_ev); (walk_at "ls"); (walk_at "ls"))
  | ((with_reducible apply xPar3_ev); (walk_at "ar"))
  | ((with_reducible apply xDput_ev); (walk_at "ev"); rfl; (walk_at "ev"); rfl; with_reducible exact keyO_i; (walk_at "le"))
  | ((with_reducible apply xDpop_ev); rfl; (walk_at "ev"); rfl; with_reducible exact keyO_i; (walk_at "dg"))
  | ((with_reducible apply xAsgC_ev); (walk_at "dl"))
  | ((with_reducible apply xTup2_ev); (walk_at "nt"))
  | ((with_reducible apply xFrz_O); rfl; (walk_at "ex"))
  | ((with_reducible apply xFrz_D); rfl; (walk_at "ex"))
  | ((with_reducible apply xIf_D); (walk_at "be"); (first | ((with_reducible apply cd_T); (walk_at "tr"); (walk_at "ex")) | ((with_reducible apply cd_F); (walk_at "tr"); (walk_at "ex"))))
  | ((with_reducible apply xSeq_ev); (walk_at "ex"); (walk_at "ex")))
local macro_rules | `(tactic| walk_at "st") => `(tactic| ((first | refine rt_seq (by walk_at "ex") ?_ | refine seq_step (by walk_at "ex") ?_); try simp only [List.set_cons_succ, List.set_cons_zero]))
local macro_rules | `(tactic| walk_at "rt") => `(tactic| refine rt_is (rt_ret (by walk_at "ev")) ?_ ?_)
local macro_rules | `(tactic| walk_at "yes") => `(tactic| (first | refine rt_now (rt_T (by walk_at "be") (by walk_at "tr") ?_) | refine rt_T (by walk_at "be") (by walk_at "tr") ?_))
local macro_rules | `(tactic| walk_at "noo") => `(tactic| (first | refine rt_now (rt_F (by walk_at "be") (by walk_at "tr") ?_) | refine rt_F (by walk_at "be") (by walk_at "tr") ?_))
local macro_rules | `(tactic| walk_at "cq") => `(tactic| with_reducible assumption)
local macro_rules | `(tactic| walk_at "le") => `(tactic| first | omega | (simp only [List.length_cons, List.length_nil, List.length_append, List.length_map, List.length_set, List.length_range, nD_len]; omega) | decide)
local macro_rules | `(tactic| walk_at "sr") => `(tactic| repeat (first | with_reducible exact SetR.z | with_reducible apply SetR.s))
local macro_rules | `(tactic| walk_at "ha") => `(tactic| first | walk_at "op" | walk_at "at" | walk_at "bi" | walk_at "dg" | with_reducible rfl | rfl)
local macro_rules | `(tactic| walk_at "v") => `(tactic| first
  | with_reducible refine wp_seq ?_
  | with_reducible refine seqK_nx ?_
  | ((with_reducible apply wp_eVar); (rfl))
  | with_reducible refine wp_eC ?_
  | with_reducible refine wp_eOp ?_
  | with_reducible refine has_some ?_
  | ((with_reducible apply hasG_nm); (walk_at "sr"))
  | ((with_reducible apply hasG_tp); (rfl); (rfl))
  | with_reducible refine hasG_cons ?_
  | with_reducible refine hasG_nil ?_
  | ((with_reducible apply has_of); (walk_at "ha"))
  | with_reducible refine wp_eCall ?_
  | with_reducible refine wp_vE ?_
  | ((with_reducible apply wp_vR); (rfl))
  | with_reducible refine wp_vNil ?_
  | ((with_reducible apply fok_eq); (walk_at "cq"))
  | with_reducible refine wp_asg ?_
  | with_reducible refine wp_asgG ?_
  | with_reducible refine wp_asgL ?_
  | with_reducible refine wp_if ?_
  | with_reducible refine wp_ret ?_
  | with_reducible refine seqK_ret ?_
  | with_reducible refine retK_ret ?_
  | with_reducible refine wp_bTest ?_
  | with_reducible refine wp_bTru ?_
  | with_reducible refine wp_bNot ?_
  | with_reducible refine wp_eCB ?_
  | with_reducible refine wp_aCons ?_
  | with_reducible refine wp_aNil ?_
  | with_reducible refine wp_eUn ?_
  | with_reducible refine wp_eTup ?_
  | with_reducible refine wp_eL ?_
  | with_reducible refine wp_lLst ?_
  | with_reducible refine wp_eIf ?_
  | with_reducible refine wp_for ?_
  | with_reducible refine wp_iWipe ?_
  | with_reducible refine wp_iSq ?_
  | with_reducible refine wp_iRg1 ?_
  | with_reducible refine wp_iRg2 ?_
  | with_reducible refine wp_keep ?_
  | with_reducible refine wp_pre ?_
  | with_reducible refine wp_next ?_
  | with_reducible refine wp_break ?_
  | with_reducible refine wp_cont ?_
  | with_reducible refine bodyK_nx ?_
  | with_reducible refine bodyK_ct ?_
  | with_reducible refine bodyK_bk ?_
  | with_reducible refine bodyK_ret ?_
  | with_reducible refine seqK_bk ?_
  | with_reducible refine seqK_ct ?_
  | with_reducible refine retK_nx ?_
  | with_reducible refine wp_forNil ?_
  | with_reducible refine wp_eIsN ?_
  | with_reducible refine wp_eNotN ?_
  | with_reducible refine wp_eNot ?_
  | ((with_reducible apply wp_eIxV); (rfl))
  | ((with_reducible apply wp_eLenV); (rfl))
  | ((with_reducible apply wp_eTupleV); (rfl))
  | ((with_reducible apply wp_eSlV); (rfl))
  | with_reducible refine wp_eSl ?_
  | with_reducible refine wp_oNone ?_
  | with_reducible refine wp_oSome ?_
  | with_reducible refine wp_eInV ?_
  | ((with_reducible apply wp_ePopO); (rfl); (walk_at "gt"); (walk_at "sr"))
  | ((with_reducible apply wp_eDget); (exact ⟨_, rfl⟩))
  | ((with_reducible apply wp_eDget2); (exact ⟨_, rfl⟩))
  | with_reducible refine wp_eDin ?_
  | with_reducible refine wp_eDnot ?_
  | ((with_reducible apply wp_eLenD); (rfl))
  | with_reducible refine wp_eIsi ?_
  | with_reducible refine wp_eCallK ?_
  | with_reducible refine wp_eCallD ?_
  | with_reducible refine wp_lList ?_
  | with_reducible refine wp_lListRg ?_
  | with_reducible refine wp_lListRg2 ?_
  | with_reducible refine wp_iEn ?_
  | with_reducible refine wp_lRep ?_
  | ((with_reducible apply wp_lListV); (rfl))
  | ((with_reducible apply wp_lKeys); (rfl))
  | with_reducible refine wp_lLc ?_
  | with_reducible refine wp_bYes ?_
  | ((with_reducible apply wp_bTruV); (rfl))
  | ((with_reducible apply wp_bTruD); (rfl))
  | with_reducible refine wp_bIf ?_
  | with_reducible refine wp_lDnew ?_
  | with_reducible refine wp_lDc ?_
  | with_reducible refine wp_asgC ?_
  | with_reducible refine wp_newL ?_
  | with_reducible refine wp_retN ?_
  | with_reducible refine wp_drop ?_
  | ((with_reducible apply wp_app); (exact ⟨_, rfl⟩))
  | with_reducible refine wp_setI ?_
  | ((with_reducible apply wp_aug); (rfl))
  | ((with_reducible apply wp_frzO); (rfl); (walk_at "sr"))
  | ((with_reducible apply wp_frzD); (rfl))
  | with_reducible refine wp_par ?_
  | with_reducible refine wp_parDL ?_
  | with_reducible refine wp_parLD ?_
  | with_reducible refine wp_parLL ?_
  | with_reducible refine wp_par3 ?_
  | with_reducible refine wp_dput ?_
  | ((with_reducible apply wp_dpop); (exact ⟨_, rfl⟩))
  | with_reducible refine wp_tup2 ?_
  | with_reducible refine wp_tup3 ?_
  | with_reducible refine wp_tup4 ?_
  | with_reducible refine wp_uNil ?_
  | with_reducible refine wp_uD ?_
  | with_reducible refine wp_uL ?_
  | with_reducible refine wp_uC ?_
  | with_reducible refine wp_eChain ?_
  | (with_reducible refine wp_bAnd ?_; (repeat walk_at "v"); walk_at "br")
  | (with_reducible refine wp_bOr ?_; (repeat walk_at "v"); walk_at "br")
  | (with_reducible refine wp_eAnd ?_; (repeat walk_at "v"); walk_at "br")
  | (with_reducible refine wp_eOr ?_; (repeat walk_at "v"); walk_at "br")
  | with_reducible refine wp_bAndB ?_
  | with_reducible refine wp_bOrB ?_
  | with_reducible refine wp_eAndB ?_
  | with_reducible refine wp_eOrB ?_
  | walk_at "xx")
local macro_rules | `(tactic| walk_at "nk") => `(tactic| ((repeat walk_at "v"); first | exact ⟨rfl, rfl, rfl⟩ | exact ⟨rfl, rfl, by walk_at "op"⟩))
local macro_rules | `(tactic| walk_at "lt2") => `(tactic| first | omega | exact ⟨by omega, by omega⟩ | (simp only [List.length_cons, List.length_nil, List.length_append, List.length_map, List.length_set, nD_len]; omega))
local macro_rules | `(tactic| walk_at "ky") => `(tactic| first | with_reducible exact keyO_i | with_reducible exact keyO_s | rfl)
local macro_rules | `(tactic| walk_at "xx") => `(tactic| first
  | refine ⟨_, by walk_at "sr", ?_⟩
  | refine ⟨_, by with_reducible rfl, by omega, ?_⟩
  | refine ⟨_, by with_reducible rfl, by omega, by walk_at "le", ?_⟩
  | refine ⟨_, by with_reducible rfl, ?_⟩
  | ((with_reducible apply and_le); (walk_at "le"))
  | ((with_reducible apply and_bk); (rfl))
  | refine ⟨_, _, by rfl, by with_reducible rfl, ?_⟩
  | refine ⟨_, _, by rfl, by walk_at "ky", ?_⟩
  | refine ⟨_, _, by rfl, by walk_at "le", by walk_at "sr", ?_⟩
  | refine ⟨⟨_, by rfl⟩, ?_⟩
  | refine ⟨_, _, _, by with_reducible rfl, by rfl, by walk_at "lt2", by walk_at "sr", ?_⟩
  | refine ⟨_, _, _, by rfl, by walk_at "ky", by walk_at "lt2", by walk_at "sr", ?_⟩
  | refine ⟨_, _, _, by rfl, by walk_at "ky", by walk_at "gt", by walk_at "sr", ?_⟩
  | refine ⟨_, _, by walk_at "sr", by walk_at "sr", ?_⟩
  | refine ⟨_, _, _, _, by rfl, by walk_at "sr", by walk_at "sr", ?_⟩
  | refine ⟨_, _, _, _, _, _, by rfl, by walk_at "sr", by walk_at "sr", by walk_at "sr", ?_⟩
  | refine ⟨_, _, _, _, _, _, _, _, by rfl, by walk_at "sr", by walk_at "sr", by walk_at "sr", by walk_at "sr", ?_⟩
  | refine ⟨_, by walk_at "ki", ?_⟩
  | refine ⟨_, _, by with_reducible rfl, by with_reducible rfl, ?_⟩
  | refine ⟨_, _, by with_reducible rfl, by with_reducible rfl, by omega, by omega, ?_⟩
  | refine ⟨_, _, by walk_at "op", (fun _ => by walk_at "nk"), ?_⟩
  | refine ⟨_, _, by with_reducible rfl, (fun _ => by walk_at "nk"), ?_⟩
  | refine ⟨_, (fun _ => by walk_at "nk"), ?_⟩
  | refine ⟨_, by rfl, ?_⟩)
local macro_rules | `(tactic| walk_at "br") => `(tactic| first | ((with_reducible apply br_T); (walk_at "tr")) | ((with_reducible apply br_F); (walk_at "tr")))
local macro_rules | `(tactic| walk_at "vfn") => `(tactic| refine fok_fn (by (simp only [List.length_cons, List.length_nil, Nat.reduceAdd, Nat.reduceSub, List.replicate_succ, List.replicate_zero, List.cons_append, List.nil_append]; try rfl)) ?_)
local macro_rules | `(tactic| walk_at "vc") => `(tactic| repeat (first | walk_at "v" | walk_at "br" | with_reducible exact ⟨rfl, rfl, rfl⟩ | with_reducible exact ⟨rfl, rfl⟩))
local macro_rules | `(tactic| walk_at "wi") => `(tactic| (simp only [wipeV, List.set_cons_succ, List.set_cons_zero]; try rfl))
local macro_rules | `(tactic| walk_at "op") => `(tactic| ((with_reducible apply ixD_g); assumption))
local macro_rules | `(tactic| walk_at "bi") => `(tactic| with_reducible exact lenD_g)
local macro_rules | `(tactic| walk_at "bi") => `(tactic| with_reducible exact lenD_n)
local macro_rules | `(tactic| walk_at "cl") => `(tactic| ((with_reducible apply draw_eq) <;> first | omega | assumption))
local macro_rules | `(tactic| walk_at "cl") => `(tactic| ((with_reducible apply dworth_eq) <;> first | omega | assumption))
local macro_rules | `(tactic| walk_at "bi") => `(tactic| first | with_reducible exact lenD_gD _ | with_reducible exact lenD_nD _ | with_reducible exact lenD_nL _ | with_reducible exact gX_at (by assumption))
local macro_rules | `(tactic| walk_at "cq") => `(tactic| ((with_reducible apply moves_of_eq); first | omega | assumption))
/-! ### dicts by places -/
def dOf (f : Nat → PyData) (ps : List Nat) : List (Key × PyData) := ps.map fun p => (kN p, f p)
theorem dOf_get {f : Nat → PyData} {ps : List Nat} {p : Nat} (h : p ∈ ps) : valG (dOf f ps) (.inl (p : Int)) = some (f p) := by
  unfold valG dOf
  induction ps with
  | nil => cases h
  | cons q r ih =>
    rw [List.map_cons]
    by_cases e : q = p
    · subst e
      rw [List.find?_cons_of_pos (by simp [kN])]
      rfl
    · rw [List.find?_cons_of_neg (by
        show ¬ (decide (kN q = .inl (p : Int)) = true)
        rw [decide_eq_true_eq]
        exact fun z => e (kN_inj (q := p) z))]
      exact ih ((List.mem_cons.mp h).resolve_left fun z => e z.symm)
theorem dOf_none {f : Nat → PyData} {ps : List Nat} {p : Nat} (h : p ∉ ps) : valG (dOf f ps) (.inl (p : Int)) = none := val_none fun kv hkv => by
  obtain ⟨q, hq, rfl⟩ := List.mem_map.mp hkv
  exact fun z => h (by rw [← kN_inj (q := p) z]; exact hq)
theorem dOf_has {f : Nat → PyData} {ps : List Nat} {p : Nat} : (valG (dOf f ps) (.inl (p : Int))).isSome = decide (p ∈ ps) := by
  by_cases h : p ∈ ps
  · rw [dOf_get h, decide_eq_true h]; rfl
  · rw [dOf_none h, decide_eq_false h]; rfl
theorem dOf_put {f : Nat → PyData} {ps : List Nat} {p : Nat} (h : p ∉ ps) {v : PyData} (e : v = f p) : putG (dOf f ps) (.inl (p : Int)) v = dOf f (ps ++ [p]) := by
  subst e
  rw [putG_new]
  · unfold dOf; rw [List.map_append]; rfl
  · intro kv hkv
    obtain ⟨q, hq, rfl⟩ := List.mem_map.mp hkv
    exact fun z => h (by rw [← kN_inj (q := p) z]; exact hq)
theorem dOf_len {f : Nat → PyData} {ps : List Nat} : (dOf f ps).length = ps.length := List.length_map _
/-! ### the greatest, the least -/
def m_choice : X :=
  (xRet (eIf (bTest (eOp eqD (eVar 0) (eC (.int 0)))) (eCB maxD (aCons (eVar 1) aNil)) (eCB minD (aCons (eVar 1) aNil))))
def f_choice : FS := fnS 2 (m_choice )

theorem choice_eq (st : Sg) {s : Int} (hs : s = 0 ∨ s = 1) {ns : List Int} (hn : ns ≠ []) : f_choice [.dat (.int s), .dat (.list (ns.map .int))] st = some (.dat (.int (chI s ns)), st) := by
  unfold f_choice m_choice
  refine fok_is ?_
  walk_at "vfn"
  have h1 := maxD_i hn
  have h2 := minD_i hn
  rcases hs with rfl | rfl
  · walk_at "vc"
  · walk_at "vc"
local macro_rules | `(tactic| walk_at "cq") => `(tactic| ((with_reducible apply choice_eq) <;> assumption))
/-! ### worths -/
def b_worths_1 (F_order_of F_choice : FS) : X :=
  (xSeq (xAsgG (gTp 2 (gsCons (gNm 3) (gsCons (gNm 4) gsNil))) (eOp ixD (eVar 0) (eVar 2)))
    (xDput 1 (eVar 2) (eIf (bTest (eOp eqD (eVar 3) (eC (.str "end")))) (eVar 4) (eCall F_choice (vCons (vE (eVar 3)) (vCons (vE (eL (lLc [5] (iSq (eVar 4)) (gNm 5) bYes (eDget 1 (eVar 5))))) vNil))))))
def m_worths (F_order_of F_choice : FS) : X :=
  (xSeq (xAsgC 1 lDnew)
  (xSeq (xFor (iWipe [2, 3, 4, 5] (iSq (eCall F_order_of (vCons (vE (eVar 0)) vNil)))) (gNm 2)
    (xKeep [2, 3, 4, 5] (b_worths_1 F_order_of F_choice)))
  (xRet (eCB tupleD (aCons (eL (lLc [2] (iRg1 (eCB lenD (aCons (eVar 0) aNil))) (gNm 2) bYes (eDget 1 (eVar 2)))) aNil)))))
def f_worths : FS := fnS 6 (m_worths f_order_of f_choice)

def wI (g : List Pl) (p : Nat) : PyData := .int (wor g p)
def worsD (g : List Pl) : List PyData := (List.range g.length).map (wI g)
theorem nodup_len {xs : List Nat} {n : Nat} (h : xs.Nodup) (hx : ∀ x ∈ xs, x < n) : xs.length ≤ n := by
  have := h.length_le_of_subset (l₂ := List.range n) fun x hxx => List.mem_range.mpr (hx x hxx)
  rwa [List.length_range] at this
theorem mvs_lt {g : List Pl} (hg : Good g) {p m : Nat} (h : m ∈ mvs g p) : m < g.length := by
  unfold mvs at h
  cases e : g[p]? with
  | none => rw [e] at h; cases h
  | some x =>
    rw [e] at h
    cases x with
    | fin w => cases h
    | mv s ms => exact (hg.ok p _ e).2.2.2.1 m h
theorem worths_eq {g : List Pl} (hg : Good g) (hst : Straight g) (st : Sg) : f_worths [.dat (gD g)] st = some (.dat (.tuple (worsD g)), st) := by
  have hl := hg.len
  obtain ⟨rk, hrk⟩ := hst.rk
  obtain ⟨o, ho, ht⟩ := ord_topo hg hst
  have hoe := order_of_eq hg st
  rw [ho] at hoe
  have hol : o.length = g.length := by rw [ht.perm.length_eq, List.length_range]
  unfold f_worths m_worths
  refine fok_is ?_
  walk_at "vfn"
  walk_at "vc"
  refine wp_forS o (fun p => .int (p : Nat)) (fun pre => [.dat (gD g), .dct (dOf (wI g) pre), .no, .no, .no, .no]) (fun _ => st) (fun pre s => s = pre) [] rfl ?_ ?_
  · rintro pre p post s e rfl
    have hi : o[s.length]? = some p := by rw [e]; simp
    have htk : o.take s.length = s := by rw [e]; simp
    have hmv := ht.dn _ _ hi
    rw [htk] at hmv
    have hp : p < g.length := List.mem_range.mp (ht.perm.mem_iff.mp (List.mem_of_getElem? hi))
    have hnd : o.Nodup := ht.perm.nodup_iff.mpr List.nodup_range
    have hpn : p ∉ s := fun z => by
      rw [e, List.nodup_append] at hnd
      exact hnd.2.2 p z p List.mem_cons_self rfl
    have hsl : s.length < 100000 := by
      have := (List.getElem?_eq_some_iff.mp hi).1
      omega
    have hdl : (dOf (wI g) s).length < 100000 := by rw [dOf_len]; exact hsl
    have hx : g[p]? = some g[p] := List.getElem?_eq_getElem hp
    generalize g[p] = x at hx
    rw [mvs_eq hx] at hmv
    unfold b_worths_1
    cases x with
    | fin w =>
      have hw := wor_fin hrk hx
      walk_at "vc"
      refine ⟨_, ?_, rfl, rfl⟩
      rw [← dOf_put hpn (v := .int w) (by unfold wI; rw [hw])]
      rfl
    | mv sd ms =>
      obtain ⟨q1, q2, q3, q4, q5⟩ := hg.ok p _ hx
      have hw := wor_mv hrk hx
      walk_at "vc"
      refine lcw_map (xs := ms) (fun m => .int (m : Nat)) (wI g) (by rfl) (by rfl) (by omega) (by walk_at "wi") (fun m hm => ?_) ?_
      · have hg := dOf_get (f := wI g) (hmv m hm)
        walk_at "vc"
      · have e1 : ms.map (wI g) = (ms.map (wor g)).map PyData.int := by rw [List.map_map]; rfl
        rw [e1]
        have hne : ms.map (wor g) ≠ [] := fun z => q2 (by simpa using z)
        walk_at "vc"
        refine ⟨_, ?_, rfl, rfl⟩
        rw [← dOf_put hpn (v := .int (chI sd (ms.map (wor g)))) (by unfold wI; rw [hw])]
        rfl
  · rintro s rfl
    walk_at "vc"
    rw [Int.toNat_natCast, rng_nat]
    refine lcw_map (xs := List.range g.length) (fun m => .int (m : Nat)) (wI g) (by rfl) (by rfl) (by rw [List.length_range]; omega) (by walk_at "wi") (fun m hm => ?_) ?_
    · have hg := dOf_get (f := wI g) (ht.perm.mem_iff.mpr hm)
      walk_at "vc"
    · walk_at "vc"

theorem wors_at {g : List Pl} {p : Nat} (hp : p < g.length) : (worsD g)[p]? = some (wI g p) := by unfold worsD; rw [List.getElem?_map, List.getElem?_range hp]; rfl
theorem wors_ix {g : List Pl} {p : Nat} (hp : p < g.length) : ixD (.tuple (worsD g)) (.int (p : Int)) = some (.int (wor g p)) := ixD_tN (wors_at hp)
theorem wors_ixL {g : List Pl} {p : Nat} (hp : p < g.length) : ixD (.list (worsD g)) (.int (p : Int)) = some (.int (wor g p)) := ixD_lN (wors_at hp)
local macro_rules | `(tactic| walk_at "cq") => `(tactic| ((with_reducible apply worths_eq) <;> assumption))
local macro_rules | `(tactic| walk_at "bi") => `(tactic| first | ((with_reducible apply wors_ix); assumption) | ((with_reducible apply wors_ixL); assumption))
/-! ### best moves -/
def bestP (g : List Pl) (p : Nat) : List Nat := (mvs g p).filter fun m => decide (wor g m = wor g p)
def m_best_moves (F_worths F_moves_of : FS) : X :=
  (xSeq (xAsg 2 (eCall F_worths (vCons (vE (eVar 0)) vNil)))
  (xRet (eCB tupleD (aCons (eL (lLc [3] (iSq (eCall F_moves_of (vCons (vE (eVar 0)) (vCons (vE (eVar 1)) vNil)))) (gNm 3) (bTest (eOp eqD (eOp ixD (eVar 2) (eVar 3)) (eOp ixD (eVar 2) (eVar 1)))) (eVar 3))) aNil))))
def f_best_moves : FS := fnS 4 (m_best_moves f_worths f_moves_of)

theorem best_moves_eq {g : List Pl} (hg : Good g) (hst : Straight g) (st : Sg) {p : Nat} (hp : p < g.length) : f_best_moves [.dat (gD g), .dat (.int (p : Int))] st = some (.dat (.tuple (nD (bestP g p))), st) := by
  have hl := hg.len
  unfold f_best_moves m_best_moves
  refine fok_is ?_
  walk_at "vfn"
  walk_at "vc"
  refine lcw_pure (xs := mvs g p) (fun m => .int (m : Nat)) (fun m => decide (wor g m = wor g p)) (fun m => .int (m : Nat)) (by rfl) (by rfl) ?_ (by walk_at "wi") (fun m hm => ?_) ?_
  · exact Nat.le_trans (nodup_len (mvs_nodup hg p) fun m hm => mvs_lt hg hm) (by omega)
  · have hm' := mvs_lt hg hm
    walk_at "vc"
    refine ⟨⟨rfl, rfl, rfl⟩, fun _ => ?_⟩
    walk_at "vc"
  · walk_at "vc"
/-! ### the main line -/
def lineP (g : List Pl) : Nat → Nat → List Nat
  | 0, p => [p]
  | k + 1, p => match bestP g p with | [] => [p] | m :: _ => p :: lineP g k m
theorem chI_mem {s : Int} {ns : List Int} (h : ns ≠ []) : chI s ns ∈ ns := by
  unfold chI
  split
  · exact maxI_mem h
  · exact minI_mem h
theorem best_ne {g : List Pl} {rk : Nat → Nat} (hg : Good g) (hrk : Rk g rk) {p : Nat} (h : mvs g p ≠ []) : bestP g p ≠ [] := by
  cases e : g[p]? with
  | none => exact absurd (by unfold mvs; rw [e]; rfl) h
  | some x =>
    cases x with
    | fin w => exact absurd (by rw [mvs_eq e]; rfl) h
    | mv s ms =>
      have hw := wor_mv hrk e
      have hne : ms.map (wor g) ≠ [] := fun z => (hg.ok p _ e).2.1 (by simpa using z)
      obtain ⟨m, hm, hm2⟩ := List.mem_map.mp (chI_mem (s := s) hne)
      refine List.ne_nil_of_mem (a := m) (List.mem_filter.mpr ⟨by rw [mvs_eq e]; exact hm, decide_eq_true ?_⟩)
      rw [hm2, hw]
theorem best_sub {g : List Pl} {p m : Nat} (h : m ∈ bestP g p) : m ∈ mvs g p ∧ wor g m = wor g p := by
  obtain ⟨h1, h2⟩ := List.mem_filter.mp h
  exact ⟨h1, of_decide_eq_true h2⟩
theorem mvs_rk {g : List Pl} {rk : Nat → Nat} (hrk : Rk g rk) {p m : Nat} (h : m ∈ mvs g p) : rk m < rk p := by
  unfold mvs at h
  cases e : g[p]? with
  | none => rw [e] at h; cases h
  | some x => rw [e] at h; exact hrk.dn p x m e h
theorem line_stable {g : List Pl} {rk : Nat → Nat} (hrk : Rk g rk) : ∀ (k k' p : Nat), rk p ≤ k → rk p ≤ k' → lineP g k p = lineP g k' p
  | k, 0, p, h1, h2 => by
    have : mvs g p = [] := List.eq_nil_iff_forall_not_mem.mpr fun m hm => by have := mvs_rk hrk hm; omega
    have hb : bestP g p = [] := by unfold bestP; rw [this]; rfl
    cases k with
    | zero => rfl
    | succ k => rw [lineP, lineP, hb]
  | 0, k' + 1, p, h1, h2 => by
    have : mvs g p = [] := List.eq_nil_iff_forall_not_mem.mpr fun m hm => by have := mvs_rk hrk hm; omega
    have hb : bestP g p = [] := by unfold bestP; rw [this]; rfl
    rw [lineP, lineP, hb]
  | k + 1, k' + 1, p, h1, h2 => by
    rw [lineP, lineP]
    cases hb : bestP g p with
    | nil => rfl
    | cons m r =>
      have := mvs_rk hrk (best_sub (show m ∈ bestP g p by rw [hb]; simp)).1
      show p :: lineP g k m = p :: lineP g k' m
      rw [line_stable hrk k k' m (by omega) (by omega)]
def mainP (g : List Pl) (p : Nat) : List Nat := lineP g g.length p
theorem main_nil {g : List Pl} {p : Nat} (h : mvs g p = []) : mainP g p = [p] := by
  have hb : bestP g p = [] := by unfold bestP; rw [h]; rfl
  unfold mainP
  cases g.length with
  | zero => rfl
  | succ k => rw [lineP, hb]
theorem main_cons {g : List Pl} {rk : Nat → Nat} (hrk : Rk g rk) {p m : Nat} {r : List Nat} (hp : p < g.length) (h : bestP g p = m :: r) : mainP g p = p :: mainP g m := by
  have h1 := hrk.lt p hp
  have h2 := mvs_rk hrk (best_sub (show m ∈ bestP g p by rw [h]; simp)).1
  unfold mainP
  rw [line_stable hrk g.length (g.length - 1 + 1) p (by omega) (by omega), lineP, h]
  show p :: lineP g (g.length - 1) m = _
  rw [line_stable hrk (g.length - 1) g.length m (by omega) (by omega)]
theorem last_snoc (pre : List Nat) (c : Nat) : (nD (pre ++ [c]))[(nD (pre ++ [c])).length - 1]? = some (.int (c : Nat)) := by
  rw [nD_len]
  refine nD_get ?_
  simp
def b_main_line_1 (F_worths F_moves_of : FS) : X :=
  (xApp 3 (eOp ixD (eL (lLc [4] (iSq (eCall F_moves_of (vCons (vE (eVar 0)) (vCons (vE (eIxV 3 (eUn negD (eC (.int 1))))) vNil)))) (gNm 4) (bTest (eOp eqD (eOp ixD (eVar 2) (eVar 4)) (eOp ixD (eVar 2) (eIxV 3 (eUn negD (eC (.int 1))))))) (eVar 4))) (eC (.int 0))))
def m_main_line (F_worths F_moves_of : FS) : X :=
  (xSeq (xTup [2, 3] (uD (eCall F_worths (vCons (vE (eVar 0)) vNil)) (uL (lLst (aCons (eVar 1) aNil)) uNil)))
  (xSeq (xPre [1, 4] (xWhile (bTru (eCall F_moves_of (vCons (vE (eVar 0)) (vCons (vE (eIxV 3 (eUn negD (eC (.int 1))))) vNil))))
    (xKeep [1, 4] (b_main_line_1 F_worths F_moves_of))))
  (xRet (eTupleV 3))))
def f_main_line : FS := fnS 5 (m_main_line f_worths f_moves_of)

theorem main_line_eq {g : List Pl} (hg : Good g) (hst : Straight g) (st : Sg) {p : Nat} (hp : p < g.length) : f_main_line [.dat (gD g), .dat (.int (p : Int))] st = some (.dat (.tuple (nD (mainP g p))), st) := by
  have hl := hg.len
  obtain ⟨rk, hrk⟩ := hst.rk
  unfold f_main_line m_main_line
  refine fok_is ?_
  walk_at "vfn"
  walk_at "vc"
  refine wp_while (σ := List Nat × Nat) (fun s => [.dat (gD g), .no, .dat (.tuple (worsD g)), .own (nD (s.1 ++ [s.2])), .no]) (fun _ => st) (fun s => s.2 < g.length ∧ s.1 ++ mainP g s.2 = mainP g p ∧ s.1.length + rk s.2 ≤ g.length) (fun s => rk s.2) ([], p) ⟨hp, rfl, by have := hrk.lt p hp; simp; omega⟩ (by have := hrk.lt p hp; simp; omega) ?_
  rintro ⟨pre, c⟩ ⟨h1, h2, h3⟩
  have hlast := last_snoc pre c
  simp only at h1 h2 h3
  walk_at "vc"
  refine br_C (fun hb => ?_) (fun hb => ?_)
  · have hne : mvs g c ≠ [] := fun z => by rw [z] at hb; cases hb
    unfold b_main_line_1
    walk_at "vc"
    refine lcw_pure (xs := mvs g c) (fun m => .int (m : Nat)) (fun m => decide (wor g m = wor g c)) (fun m => .int (m : Nat)) (by rfl) (by rfl) ?_ (by walk_at "wi") (fun m hm => ?_) ?_
    · exact Nat.le_trans (nodup_len (mvs_nodup hg c) fun m hm => mvs_lt hg hm) (by omega)
    · have hm' := mvs_lt hg hm
      walk_at "vc"
      refine ⟨⟨rfl, rfl, rfl⟩, fun _ => ?_⟩
      walk_at "vc"
    · cases hbp : bestP g c with
      | nil => exact absurd hbp (best_ne hg hrk hne)
      | cons m r =>
        have hmm := best_sub (show m ∈ bestP g c by rw [hbp]; simp)
        have e1 : ((mvs g c).filter fun m => decide (wor g m = wor g c)) = m :: r := hbp
        have hpre : pre.length < 1000 := by omega
        have hrm := mvs_rk hrk hmm.1
        rw [e1]
        walk_at "vc"
        refine ⟨(pre ++ [c], m), ?_, rfl, ⟨mvs_lt hg hmm.1, ?_, ?_⟩, hrm⟩
        · show _ = [Vl.dat (gD g), .no, .dat (.tuple (worsD g)), .own (nD ((pre ++ [c]) ++ [m])), .no]
          rw [show nD ((pre ++ [c]) ++ [m]) = nD (pre ++ [c]) ++ [.int (m : Nat)] by unfold nD; rw [List.map_append (l₁ := pre ++ [c])]; rfl]
          rfl
        · rw [← h2, main_cons hrk h1 hbp]
          simp
        · simp; omega
  · have hne : mvs g c = [] := by
      cases hz : mvs g c with
      | nil => rfl
      | cons => rw [hz] at hb; cases hb
    walk_at "vc"
    rw [← h2, main_nil hne]
    exact ⟨rfl, rfl⟩

end
section
local macro_rules | `(tactic| walk_at "tr") => `(tactic| first | rfl | exact decide_eq_true (by omega) | exact decide_eq_false (by omega) | with_reducible assumption | (simp only [Bool.and_eq_true, Bool.and_eq_false_iff, Bool.or_eq_true, Bool.or_eq_false_iff, Bool.not_eq_true', Bool.not_eq_false', decide_eq_true_eq, decide_eq_false_iff_not]; omega) | (simp; done))
local macro_rules | `(tactic| walk_at "le") => `(tactic| first | omega | (simp only [List.length_cons, List.length_nil, List.length_append, List.length_map]; omega) | decide)
local macro_rules | `(tactic| walk_at "gt") => `(tactic| first | with_reducible assumption | with_reducible rfl | rfl)
local macro_rules | `(tactic| walk_at "op") => `(tactic| first
  | with_reducible exact plusD_ii | with_reducible exact subD_ii | with_reducible exact addI_ii | with_reducible exact ltD_ii | with_reducible exact leD_ii | with_reducible exact gtD_ii | with_reducible exact geD_ii
  | with_reducible exact eqD_ii | with_reducible exact eqD_ss | with_reducible exact eqD_is | with_reducible exact eqD_si | with_reducible exact eqD_bb | with_reducible exact neD_ii | with_reducible exact neD_ss | with_reducible exact neD_is | with_reducible exact neD_si | with_reducible exact neD_bb
  | with_reducible assumption
  | ((with_reducible apply modD_ev); omega) | ((with_reducible apply fdivD_ev); omega) | ((with_reducible apply mulD_ev); (first | exact Or.inl ⟨by omega, by omega⟩ | exact Or.inr ⟨by omega, by omega⟩))
  | ((with_reducible apply ixD_t0); walk_at "gt") | ((with_reducible apply ixD_l0); walk_at "gt") | ((with_reducible apply ixD_t1); walk_at "gt") | ((with_reducible apply ixD_l1); walk_at "gt")
  | ((with_reducible apply ixD_last); walk_at "gt") | ((with_reducible apply ixD_lastL); walk_at "gt")
  | ((with_reducible apply ixD_tN); walk_at "gt") | ((with_reducible apply ixD_lN); walk_at "gt")
  | ((with_reducible apply ixD_t); omega; walk_at "gt") | ((with_reducible apply ixD_l); omega; walk_at "gt")
  | ((with_reducible apply plusD_l); walk_at "le") | ((with_reducible apply plusD_t); walk_at "le"))
local macro_rules | `(tactic| walk_at "at") => `(tactic| first | with_reducible assumption | ((with_reducible apply atI_z); walk_at "gt") | ((with_reducible apply atI_last); walk_at "gt") | ((with_reducible apply atI_N); walk_at "gt") | ((with_reducible apply atI_i); omega; walk_at "gt") | ((with_reducible apply atI_last); walk_at "gt"))
local macro_rules | `(tactic| walk_at "ki") => `(tactic| first | with_reducible exact k_bb | with_reducible exact k_tt | with_reducible exact k_ss | with_reducible exact k_ii | with_reducible exact k_ib | with_reducible exact k_it | with_reducible exact k_is | with_reducible exact k_tb | with_reducible exact k_sb | with_reducible exact k_st | with_reducible exact k_bi | with_reducible exact k_bt | with_reducible exact k_bs | with_reducible exact k_ti | with_reducible exact k_ts | with_reducible exact k_si | with_reducible exact k_nb | with_reducible exact k_nt | with_reducible exact k_ns | with_reducible exact k_ni | with_reducible exact k_lt | with_reducible exact k_lb | with_reducible exact k_ls | with_reducible exact k_li)
local macro_rules | `(tactic| walk_at "cl") => `(tactic| with_reducible assumption)
local macro_rules | `(tactic| walk_at "bi") => `(tactic| first | with_reducible assumption | rfl)
local macro_rules | `(tactic| walk_at "lc") => `(tactic| with_reducible assumption)
local macro_rules | `(tactic| walk_at "ar") => `(tactic| first | with_reducible exact aNil_ev | ((with_reducible apply aCons_ev); (walk_at "ev"); (walk_at "ar")))
local macro_rules | `(tactic| walk_at "va") => `(tactic| first | with_reducible exact vNil_ev | ((with_reducible apply vCons_ev); ((with_reducible apply vE_ev); (walk_at "ev")); (walk_at "va")) | ((with_reducible apply vCons_ev); ((with_reducible apply vR_ev); rfl); (walk_at "va")))
local macro_rules | `(tactic| walk_at "os") => `(tactic| first | with_reducible exact oNone_ev | ((with_reducible apply oSome_ev); (walk_at "ev")))
local macro_rules | `(tactic| walk_at "ls") => `(tactic| first
  | ((with_reducible apply lLst_ev); (walk_at "ar"); (walk_at "le"))
  | ((with_reducible apply lList_ev); (walk_at "ev"); rfl)
  | ((with_reducible apply lListV_ev); rfl)
  | ((with_reducible apply lListRg_ev); (walk_at "ev"); omega)
  | ((with_reducible apply lListRg2_ev); (walk_at "ev"); (walk_at "ev"); omega; omega)
  | ((with_reducible apply lRep_ev); (walk_at "ar"); (walk_at "ev"); omega; (walk_at "le"))
  | ((with_reducible apply lLc_ev); (walk_at "it"); (walk_at "lc"))
  | ((with_reducible apply lKeys_ev); rfl))
local macro_rules | `(tactic| walk_at "it") => `(tactic| first
  | ((with_reducible apply iSq_ev); (walk_at "ev"); rfl)
  | ((with_reducible apply iRg1_ev); (walk_at "ev"); omega)
  | ((with_reducible apply iRg2_ev); (walk_at "ev"); (walk_at "ev"); omega; omega)
  | ((with_reducible apply iEn_ev); (walk_at "ev"))
  | ((with_reducible apply iZp_T); (walk_at "ev"); (walk_at "ev"))
  | ((with_reducible apply iZp_L); (walk_at "ev"); (walk_at "ev")))
local macro_rules | `(tactic| walk_at "dg") => `(tactic| with_reducible assumption)
local macro_rules | `(tactic| walk_at "dl") => `(tactic| with_reducible exact lDnew_ev)
local macro_rules | `(tactic| walk_at "nt") => `(tactic| first | with_reducible exact uNil_ev | ((with_reducible apply uD_ev); (walk_at "ev"); (walk_at "nt")) | ((with_reducible apply uL_ev); (walk_at "ls"); (walk_at "nt")) | ((with_reducible apply uC_ev); (walk_at "dl"); (walk_at "nt")))
local macro_rules | `(tactic| walk_at "ev") => `(tactic| first
  | ((with_reducible apply eVar_ev); rfl) | with_reducible exact eC_ev
  | ((with_reducible apply eOp_ev); (walk_at "ev"); (walk_at "ev"); (walk_at "op"))
  | ((with_reducible apply eUn_ev); (walk_at "ev"); rfl)
  | ((with_reducible apply eCB_ev); (walk_at "ar"); (walk_at "bi"))
  | ((with_reducible apply eTup_ev); (walk_at "ar"); (walk_at "le"))
  | ((with_reducible apply eL_ev); (walk_at "ls"))
  | ((with_reducible apply eCall_ev); (walk_at "va"); (walk_at "cl"))
  | ((with_reducible apply eCallK_ev); (walk_at "va"); (walk_at "va"); (walk_at "cl"))
  | ((with_reducible apply eCallD_ev); (walk_at "va"); (walk_at "cl"))
  | ((with_reducible apply eIsN_ev); (walk_at "ev"))
  | ((with_reducible apply eNotN_ev); (walk_at "ev"))
  | ((with_reducible apply eIsi_ev); (walk_at "ev"); (walk_at "ki"))
  | ((with_reducible apply eNot_ev); (walk_at "ev"); rfl)
  | ((with_reducible apply eChain_B); (walk_at "ev"); (walk_at "ev"); (walk_at "op"); (walk_at "ev"); (walk_at "op"))
  | ((with_reducible apply eSl_ev); (walk_at "ev"); (walk_at "os"); (walk_at "os"); rfl)
  | ((with_reducible apply eIxV_ev); rfl; (walk_at "ev"); rfl; (walk_at "at"))
  | ((with_reducible apply eLenV_ev); rfl)
  | ((with_reducible apply eTupleV_ev); rfl)
  | ((with_reducible apply eSlV_ev); rfl; (walk_at "os"); (walk_at "os"); rfl)
  | ((with_reducible apply eInV_ev); (walk_at "ev"); rfl; (walk_at "op"))
  | ((with_reducible apply eDget_ev); rfl; (walk_at "ev"); rfl; with_reducible exact keyO_i; (walk_at "dg"))
  | ((with_reducible apply eDin_ev); (walk_at "ev"); rfl; with_reducible exact keyO_i)
  | ((with_reducible apply eDnot_ev); (walk_at "ev"); rfl; with_reducible exact keyO_i)
  | ((with_reducible apply eLenD_ev); rfl)
  | ((with_reducible apply eIf_D); (walk_at "be"); (first | ((with_reducible apply cd_T); (walk_at "tr"); (walk_at "ev")) | ((with_reducible apply cd_F); (walk_at "tr"); (walk_at "ev"))))
  | ((with_reducible apply eAnd_F); (walk_at "ev"); rfl)
  | ((with_reducible apply eAnd_T); (walk_at "ev"); rfl; (walk_at "ev"))
  | ((with_reducible apply eOr_T); (walk_at "ev"); rfl)
  | ((with_reducible apply eOr_F); (walk_at "ev"); rfl; (walk_at "ev"))
  | ((with_reducible apply eAnd_B); (walk_at "ev"); (intro _; walk_at "ev"))
  | ((with_reducible apply eOr_B); (walk_at "ev"); (intro _; walk_at "ev")))
local macro_rules | `(tactic| walk_at "be") => `(tactic| first
  | with_reducible exact bYes_ev
  | ((with_reducible apply bTest_ev); (walk_at "ev"))
  | ((with_reducible apply bTru_ev); (walk_at "ev"); rfl)
  | ((with_reducible apply bTruV_ev); rfl)
  | ((with_reducible apply bTruD_ev); rfl)
  | ((with_reducible apply bNot_ev); (walk_at "be"))
  | ((with_reducible apply bIf_D); (walk_at "be"); (first | ((with_reducible apply cd_T); (walk_at "tr"); (walk_at "be")) | ((with_reducible apply cd_F); (walk_at "tr"); (walk_at "be"))))
  | ((with_reducible apply bAnd_D); (walk_at "be"); (first | ((with_reducible apply cd_T); (walk_at "tr"); (walk_at "be")) | ((with_reducible apply cd_F); (walk_at "tr"); rfl)))
  | ((with_reducible apply bOr_D); (walk_at "be"); (first | ((with_reducible apply cd_T); (walk_at "tr"); rfl) | ((with_reducible apply cd_F); (walk_at "tr"); (walk_at "be"))))
  | ((with_reducible apply bAnd_B); (walk_at "be"); (intro _; walk_at "be"))
  | ((with_reducible apply bOr_B); (walk_at "be"); (intro _; walk_at "be")))
local macro_rules | `(tactic| walk_at "ex") => `(tactic| first
  | with_reducible exact xNext_ev | with_reducible exact xBreak_ev | with_reducible exact xCont_ev
  | ((with_reducible apply xAsg_ev); (walk_at "ev"))
  | ((with_reducible apply xAsgG_ev); (walk_at "ev"); rfl)
  | ((with_reducible apply xAsgL_ev); (walk_at "ls"))
  | ((with_reducible apply xNewL_ev); (walk_at "ls"))
  | ((with_reducible apply xAug_ev); rfl; (walk_at "ev"); (walk_at "op"))
  | ((with_reducible apply xDrop_ev); (walk_at "ev"))
  | ((with_reducible apply xRet_ev); (walk_at "ev"))
  | ((with_reducible apply xApp_ev); rfl; (walk_at "ev"); rfl; (walk_at "le"))
  | ((with_reducible apply xSetI_ev); (walk_at "ev"); rfl; (walk_at "ev"); rfl; exact ixN_in (by walk_at "le"))
  | ((with_reducible apply xPar_ev); (walk_at "ev"); (walk_at "ev"))
  | ((with_reducible apply xParDL_ev); (walk_at "ev"); (walk_at "ls"))
  | ((with_reducible apply xParLD_ev); (walk_at "ls"); (walk_at "ev"))
  | ((with_reducible apply xParLL_ev); (walk_at "ls"); (walk_at "ls"))
  | ((with_reducible apply xPar3_ev); (walk_at "ar"))
  | ((with_reducible apply xDput_ev); (walk_at "ev"); rfl; (walk_at "ev"); rfl; with_reducible exact keyO_i; (walk_at "le"))
  | ((with_reducible apply xDpop_ev); rfl; (walk_at "ev"); rfl; with_reducible exact keyO_i; (walk_at "dg"))
  | ((with_reducible apply xAsgC_ev); (walk_at "dl"))
  | ((with_reducible apply xTup2_ev); (walk_at "nt"))
  | ((with_reducible apply xFrz_O); rfl; (walk_at "ex"))
  | ((with_reducible apply xFrz_D); rfl; (walk_at "ex"))
  | ((with_reducible apply xIf_D); (walk_at "be"); (first | ((with_reducible apply cd_T); (walk_at "tr"); (walk_at "ex")) | ((with_reducible apply cd_F); (walk_at "tr"); (walk_at "ex"))))
  | ((with_reducible apply xSeq_ev); (walk_at "ex"); (walk_at "ex")))
local macro_rules | `(tactic| walk_at "st") => `(tactic| ((first | refine rt_seq (by walk_at "ex") ?_ | refine seq_step (by walk_at "ex") ?_); try simp only [List.set_cons_succ, List.set_cons_zero]))
local macro_rules | `(tactic| walk_at "rt") => `(tactic| refine rt_is (rt_ret (by walk_at "ev")) ?_ ?_)
local macro_rules | `(tactic| walk_at "yes") => `(tactic| (first | refine rt_now (rt_T (by walk_at "be") (by walk_at "tr") ?_) | refine rt_T (by walk_at "be") (by walk_at "tr") ?_))
local macro_rules | `(tactic| walk_at "noo") => `(tactic| (first | refine rt_now (rt_F (by walk_at "be") (by walk_at "tr") ?_) | refine rt_F (by walk_at "be") (by walk_at "tr") ?_))
local macro_rules | `(tactic| walk_at "op") => `(tactic| ((with_reducible apply ixD_g); assumption))
local macro_rules | `(tactic| walk_at "bi") => `(tactic| with_reducible exact lenD_g)
local macro_rules | `(tactic| walk_at "bi") => `(tactic| with_reducible exact lenD_n)
local macro_rules | `(tactic| walk_at "cl") => `(tactic| ((with_reducible apply draw_eq) <;> first | omega | assumption))
local macro_rules | `(tactic| walk_at "cl") => `(tactic| ((with_reducible apply dworth_eq) <;> first | omega | assumption))
local macro_rules | `(tactic| walk_at "bi") => `(tactic| first | with_reducible exact lenD_gD _ | with_reducible exact lenD_nD _ | with_reducible exact lenD_nL _ | with_reducible exact gX_at (by assumption))
local macro_rules | `(tactic| walk_at "cq") => `(tactic| ((with_reducible apply moves_of_eq); first | omega | assumption))
local macro_rules | `(tactic| walk_at "cq") => `(tactic| ((with_reducible apply choice_eq) <;> assumption))
local macro_rules | `(tactic| walk_at "cq") => `(tactic| ((with_reducible apply worths_eq) <;> assumption))
local macro_rules | `(tactic| walk_at "bi") => `(tactic| first | ((with_reducible apply wors_ix); assumption) | ((with_reducible apply wors_ixL); assumption))
/-! ### draws, as they are asked in laws -/
theorem draw_ok {ns : List Int} {n : Nat} {m : Int} {g : Sg} {Q : Vl → Sg → Prop} (hz : ns.length ≤ 63) (hn : n < 90000) (hm : 0 < m) (h : ∀ k : Nat, (k : Int) < m → Q (.dat (.int (k : Int))) (tw ns (n + 1) g)) : FOk f_l_draw [scr ns, .ref 0, .dat (.int m)] (tw ns n g) Q := by
  refine fok_eq (draw_eq ns n m g hn hm hz) ?_
  obtain ⟨k, e, hk⟩ := drN_nat ns n (m := m.toNat) (by omega)
  rw [Int.toNat_of_nonneg (by omega)] at e
  rw [e]
  exact h k (by omega)
theorem straight_ok {ns : List Int} {n : Nat} {m : Int} {g : Sg} {Q : Vl → Sg → Prop} (hz : ns.length ≤ 63) (hn : n < 70000) (h1 : 1 ≤ m) (h2 : m ≤ 12) (h : ∀ gm n', (gm.length : Int) = m → Good gm → Straight gm → n ≤ n' → n' ≤ n + 300 → Q (.dat (gD gm)) (tw ns n' g)) : FOk f_l_straight [scr ns, .ref 0, .dat (.int m)] (tw ns n g) Q := by
  obtain ⟨gm, n', e, hl, hg, hs, h3, h4⟩ := straight_eq ns n m.toNat g hz (by omega) (by omega) hn
  rw [Int.toNat_of_nonneg (by omega)] at e
  exact fok_eq e (h gm n' (by omega) hg hs h3 h4)
theorem pick_ok {ns : List Int} {n : Nat} {ds : List PyData} {g : Sg} {Q : Vl → Sg → Prop} (hz : ns.length ≤ 63) (hn : n < 90000) (hd : ds ≠ []) (h : ∀ d ∈ ds, Q (.dat d) (tw ns (n + 1) g)) : FOk f_l_pick [scr ns, .ref 0, .dat (.list ds)] (tw ns n g) Q :=
  fok_eq (pick_eq ns n ds g hn (List.length_pos_iff.mpr hd) hz) (h _ (pkD_mem ns n (List.length_pos_iff.mpr hd)))
theorem dworth_ok {ns : List Int} {n : Nat} {g : Sg} {Q : Vl → Sg → Prop} (hz : ns.length ≤ 63) (hn : n < 80000) (h : ∀ w : Int, -99 ≤ w → w ≤ 99 → Q (.dat (.int w)) (tw ns (n + 3) g)) : FOk f_l_drawn_worth [scr ns, .ref 0] (tw ns n g) Q :=
  fok_eq (dworth_eq ns n g (by omega) hz) (h _ (dwI_ok ns n).2.1 (dwI_ok ns n).2.2)
/-! ### plain things -/
theorem plain_int (k : Nat) (i : Int) : plainN k (.int i) = true := by cases k <;> rfl
theorem plain_str (k : Nat) (i : Str) : plainN k (.str i) = true := by cases k <;> rfl
theorem plain_bool (k : Nat) (i : Bool) : plainN k (.bool i) = true := by cases k <;> rfl
theorem plain_none (k : Nat) : plainN k .none = true := by cases k <;> rfl
theorem plain_tup {k : Nat} {ds : List PyData} (h : ds.length ≤ 1000) (h2 : ∀ d ∈ ds, plainN k d = true) : plainN (k + 1) (.tuple ds) = true := by
  show (decide (ds.length ≤ 1000) && ds.all (plainN k)) = true
  rw [decide_eq_true h, List.all_eq_true.mpr h2]
  rfl
theorem plain_nD {k : Nat} {ms : List Nat} (h : ms.length ≤ 1000) : plainN (k + 1) (.tuple (nD ms)) = true := plain_tup (by rw [nD_len]; exact h) fun d hd => by
  obtain ⟨m, _, rfl⟩ := List.mem_map.mp hd
  exact plain_int _ _
theorem plain_ints {k : Nat} {α : Type} {f : α → Int} {ms : List α} (h : ms.length ≤ 1000) : plainN (k + 1) (.tuple (ms.map fun m => .int (f m))) = true := plain_tup (by rw [List.length_map]; exact h) fun d hd => by
  obtain ⟨m, _, rfl⟩ := List.mem_map.mp hd
  exact plain_int _ _
theorem plain_pl {k : Nat} {x : Pl} (h : x.moves.length ≤ 1000) : plainN (k + 2) x.d = true := by
  cases x with
  | fin w =>
    refine plain_tup (by simp) fun d hd => ?_
    simp only [List.mem_cons, List.not_mem_nil, or_false] at hd
    rcases hd with rfl | rfl
    · exact plain_str _ _
    · exact plain_int _ _
  | mv s ms =>
    refine plain_tup (by simp) fun d hd => ?_
    simp only [List.mem_cons, List.not_mem_nil, or_false] at hd
    rcases hd with rfl | rfl
    · exact plain_int _ _
    · exact plain_nD h
theorem plain_gD {k : Nat} {g : List Pl} (hg : Good g) : plainN (k + 3) (gD g) = true := plain_tup (by rw [List.length_map]; have := hg.len; omega) fun d hd => by
  obtain ⟨x, hx, rfl⟩ := List.mem_map.mp hd
  refine plain_pl ?_
  obtain ⟨p, hp⟩ := List.mem_iff_getElem?.mp hx
  have := hg.ok p x hp
  cases x with
  | fin w => simp [Pl.moves]
  | mv s ms => have := this.2.2.2.2; simp [Pl.moves]; omega
theorem same_ok {st : Sg} {a : PyData} {Q : Vl → Sg → Prop} (h : plainN 7 a = true) (q : Q (.dat (.bool true)) st) : FOk f_l_same [.dat a, .dat a] st Q := fok_eq (same_eq st a h) q

end
section
local macro_rules | `(tactic| walk_at "tr") => `(tactic| first | rfl | exact decide_eq_true (by omega) | exact decide_eq_false (by omega) | with_reducible assumption | (simp only [Bool.and_eq_true, Bool.and_eq_false_iff, Bool.or_eq_true, Bool.or_eq_false_iff, Bool.not_eq_true', Bool.not_eq_false', decide_eq_true_eq, decide_eq_false_iff_not]; omega) | (simp; done))
local macro_rules | `(tactic| walk_at "le") => `(tactic| first | omega | (simp only [List.length_cons, List.length_nil, List.length_append, List.length_map]; omega) | decide)
local macro_rules | `(tactic| walk_at "gt") => `(tactic| first | with_reducible assumption | with_reducible rfl | rfl)
local macro_rules | `(tactic| walk_at "op") => `(tactic| first
  | with_reducible exact plusD_ii | with_reducible exact subD_ii | with_reducible exact addI_ii | with_reducible exact ltD_ii | with_reducible exact leD_ii | with_reducible exact gtD_ii | with_reducible exact geD_ii
  | with_reducible exact eqD_ii | with_reducible exact eqD_ss | with_reducible exact eqD_is | with_reducible exact eqD_si | with_reducible exact eqD_bb | with_reducible exact neD_ii | with_reducible exact neD_ss | with_reducible exact neD_is | with_reducible exact neD_si | with_reducible exact neD_bb
  | with_reducible assumption
  | ((with_reducible apply modD_ev); omega) | ((with_reducible apply fdivD_ev); omega) | ((with_reducible apply mulD_ev); (first | exact Or.inl ⟨by omega, by omega⟩ | exact Or.inr ⟨by omega, by omega⟩))
  | ((with_reducible apply ixD_t0); walk_at "gt") | ((with_reducible apply ixD_l0); walk_at "gt") | ((with_reducible apply ixD_t1); walk_at "gt") | ((with_reducible apply ixD_l1); walk_at "gt")
  | ((with_reducible apply ixD_last); walk_at "gt") | ((with_reducible apply ixD_lastL); walk_at "gt")
  | ((with_reducible apply ixD_tN); walk_at "gt") | ((with_reducible apply ixD_lN); walk_at "gt")
  | ((with_reducible apply ixD_t); omega; walk_at "gt") | ((with_reducible apply ixD_l); omega; walk_at "gt")
  | ((with_reducible apply plusD_l); walk_at "le") | ((with_reducible apply plusD_t); walk_at "le"))
local macro_rules | `(tactic| walk_at "at") => `(tactic| first | with_reducible assumption | ((with_reducible apply atI_z); walk_at "gt") | ((with_reducible apply atI_last); walk_at "gt") | ((with_reducible apply atI_N); walk_at "gt") | ((with_reducible apply atI_i); omega; walk_at "gt") | ((with_reducible apply atI_last); walk_at "gt"))
local macro_rules | `(tactic| walk_at "ki") => `(tactic| first | with_reducible exact k_bb | with_reducible exact k_tt | with_reducible exact k_ss | with_reducible exact k_ii | with_reducible exact k_ib | with_reducible exact k_it | with_reducible exact k_is | with_reducible exact k_tb | with_reducible exact k_sb | with_reducible exact k_st | with_reducible exact k_bi | with_reducible exact k_bt | with_reducible exact k_bs | with_reducible exact k_ti | with_reducible exact k_ts | with_reducible exact k_si | with_reducible exact k_nb | with_reducible exact k_nt | with_reducible exact k_ns | with_reducible exact k_ni | with_reducible exact k_lt | with_reducible exact k_lb | with_reducible exact k_ls | with_reducible exact k_li)
local macro_rules | `(tactic| walk_at "cl") => `(tactic| with_reducible assumption)
local macro_rules | `(tactic| walk_at "bi") => `(tactic| first | with_reducible assumption | rfl)
local macro_rules | `(tactic| walk_at "lc") => `(tactic| with_reducible assumption)
local macro_rules | `(tactic| walk_at "ar") => `(tactic| first | with_reducible exact aNil_ev | ((with_reducible apply aCons_ev); (walk_at "ev"); (walk_at "ar")))
local macro_rules | `(tactic| walk_at "va") => `(tactic| first | with_reducible exact vNil_ev | ((with_reducible apply vCons_ev); ((with_reducible apply vE_ev); (walk_at "ev")); (walk_at "va")) | ((with_reducible apply vCons_ev); ((with_reducible apply vR_ev); rfl); (walk_at "va")))
local macro_rules | `(tactic| walk_at "os") => `(tactic| first | with_reducible exact oNone_ev | ((with_reducible apply oSome_ev); (walk_at "ev")))
local macro_rules | `(tactic| walk_at "ls") => `(tactic| first
  | ((with_reducible apply lLst_ev); (walk_at "ar"); (walk_at "le"))
  | ((with_reducible apply lList_ev); (walk_at "ev"); rfl)
  | ((with_reducible apply lListV_ev); rfl)
  | ((with_reducible apply lListRg_ev); (walk_at "ev"); omega)
  | ((with_reducible apply lListRg2_ev); (walk_at "ev"); (walk_at "ev"); omega; omega)
  | ((with_reducible apply lRep_ev); (walk_at "ar"); (walk_at "ev"); omega; (walk_at "le"))
  | ((with_reducible apply lLc_ev); (walk_at "it"); (walk_at "lc"))
  | ((with_reducible apply lKeys_ev); rfl))
local macro_rules | `(tactic| walk_at "it") => `(tactic| first
  | ((with_reducible apply iSq_ev); (walk_at "ev"); rfl)
  | ((with_reducible apply iRg1_ev); (walk_at "ev"); omega)
  | ((with_reducible apply iRg2_ev); (walk_at "ev"); (walk_at "ev"); omega; omega)
  | ((with_reducible apply iEn_ev); (walk_at "ev"))
  | ((with_reducible apply iZp_T); (walk_at "ev"); (walk_at "ev"))
  | ((with_reducible apply iZp_L); (walk_at "ev"); (walk_at "ev")))
local macro_rules | `(tactic| walk_at "dg") => `(tactic| with_reducible assumption)
local macro_rules | `(tactic| walk_at "dl") => `(tactic| with_reducible exact lDnew_ev)
local macro_rules | `(tactic| walk_at "nt") => `(tactic| first | with_reducible exact uNil_ev | ((with_reducible apply uD_ev); (walk_at "ev"); (walk_at "nt")) | ((with_reducible apply uL_ev); (walk_at "ls"); (walk_at "nt")) | ((with_reducible apply uC_ev); (walk_at "dl"); (walk_at "nt")))
local macro_rules | `(tactic| walk_at "ev") => `(tactic| first
  | ((with_reducible apply eVar_ev); rfl) | with_reducible exact eC_ev
  | ((with_reducible apply eOp_ev); (walk_at "ev"); (walk_at "ev"); (walk_at "op"))
  | ((with_reducible apply eUn_ev); (walk_at "ev"); rfl)
  | ((with_reducible apply eCB_ev); (walk_at "ar"); (walk_at "bi"))
  | ((with_reducible apply eTup_ev); (walk_at "ar"); (walk_at "le"))
  | ((with_reducible apply eL_ev); (walk_at "ls"))
  | ((with_reducible apply eCall_ev); (walk_at "va"); (walk_at "cl"))
  | ((with_reducible apply eCallK_ev); (walk_at "va"); (walk_at "va"); (walk_at "cl"))
  | ((with_reducible apply eCallD_ev); (walk_at "va"); (walk_at "cl"))
  | ((with_reducible apply eIsN_ev); (walk_at "ev"))
  | ((with_reducible apply eNotN_ev); (walk_at "ev"))
  | ((with_reducible apply eIsi_ev); (walk_at "ev"); (walk_at "ki"))
  | ((with_reducible apply eNot_ev); (walk_at "ev"); rfl)
  | ((with_reducible apply eChain_B); (walk_at "ev"); (walk_at "ev"); (walk_at "op"); (walk_at "ev"); (walk_at "op"))
  | ((with_reducible apply eSl_ev); (walk_at "ev"); (walk_at "os"); (walk_at "os"); rfl)
  | ((with_reducible apply eIxV_ev); rfl; (walk_at "ev"); rfl; (walk_at "at"))
  | ((with_reducible apply eLenV_ev); rfl)
  | ((with_reducible apply eTupleV_ev); rfl)
  | ((with_reducible apply eSlV_ev); rfl; (walk_at "os"); (walk_at "os"); rfl)
  | ((with_reducible apply eInV_ev); (walk_at "ev"); rfl; (walk_at "op"))
  | ((with_reducible apply eDget_ev); rfl; (walk_at "ev"); rfl; with_reducible exact keyO_i; (walk_at "dg"))
  | ((with_reducible apply eDin_ev); (walk_at "ev"); rfl; with_reducible exact keyO_i)
  | ((with_reducible apply eDnot_ev); (walk_at "ev"); rfl; with_reducible exact keyO_i)
  | ((with_reducible apply eLenD_ev); rfl)
  | ((with_reducible apply eIf_D); (walk_at "be"); (first | ((with_reducible apply cd_T); (walk_at "tr"); (walk_at "ev")) | ((with_reducible apply cd_F); (walk_at "tr"); (walk_at "ev"))))
  | ((with_reducible apply eAnd_F); (walk_at "ev"); rfl)
  | ((with_reducible apply eAnd_T); (walk_at "ev"); rfl; (walk_at "ev"))
  | ((with_reducible apply eOr_T); (walk_at "ev"); rfl)
  | ((with_reducible apply eOr_F); (walk_at "ev"); rfl; (walk_at "ev"))
  | ((with_reducible apply eAnd_B); (walk_at "ev"); (intro _; walk_at "ev"))
  | ((with_reducible apply eOr_B); (walk_at "ev"); (intro _; walk_at "ev")))
local macro_rules | `(tactic| walk_at "be") => `(tactic| first
  | with_reducible exact bYes_ev
  | ((with_reducible apply bTest_ev); (walk_at "ev"))
  | ((with_reducible apply bTru_ev); (walk_at "ev"); rfl)
  | ((with_reducible apply bTruV_ev); rfl)
  | ((with_reducible apply bTruD_ev); rfl)
  | ((with_reducible apply bNot_ev); (walk_at "be"))
  | ((with_reducible apply bIf_D); (walk_at "be"); (first | ((with_reducible apply cd_T); (walk_at "tr"); (walk_at "be")) | ((with_reducible apply cd_F); (walk_at "tr"); (walk_at "be"))))
  | ((with_reducible apply bAnd_D); (walk_at "be"); (first | ((with_reducible apply cd_T); (walk_at "tr"); (walk_at "be")) | ((with_reducible apply cd_F); (walk_at "tr"); rfl)))
  | ((with_reducible apply bOr_D); (walk_at "be"); (first | ((with_reducible apply cd_T); (walk_at "tr"); rfl) | ((with_reducible apply cd_F); (walk_at "tr"); (walk_at "be"))))
  | ((with_reducible apply bAnd_B); (walk_at "be"); (intro _; walk_at "be"))
  | ((with_reducible apply bOr_B); (walk_at "be"); (intro _; walk_at "be")))
local macro_rules | `(tactic| walk_at "ex") => `(tactic| first
  | with_reducible exact xNext_ev | with_reducible exact xBreak_ev | with_reducible exact xCont_ev
  | ((with_reducible apply xAsg_ev); (walk_at "ev"))
  | ((with_reducible apply xAsgG_ev); (walk_at "ev"); rfl)
  | ((with_reducible apply xAsgL_ev); (walk_at "ls"))
  | ((with_reducible apply xNewL_ev); (walk_at "ls"))
  | ((with_reducible apply xAug_ev); rfl; (walk_at "ev"); (walk_at "op"))
  | ((with_reducible apply xDrop_ev); (walk_at "ev"))
  | ((with_reducible apply xRet_ev); (walk_at "ev"))
  | ((with_reducible apply xApp_ev); rfl; (walk_at "ev"); rfl; (walk_at "le"))
  | ((with_reducible apply xSetI_ev); (walk_at "ev"); rfl; (walk_at "ev"); rfl; exact ixN_in (by walk_at "le"))
  | ((with_reducible apply xPar_ev); (walk_at "ev"); (walk_at "ev"))
  | ((with_reducible apply xParDL_ev); (walk_at "ev"); (walk_at "ls"))
  | ((with_reducible apply xParLD_ev); (walk_at "ls"); (walk_at "ev"))
  | ((with_reducible apply xParLL_ev); (walk_at "ls"); (walk_at "ls"))
  | ((with_reducible apply xPar3_ev); (walk_at "ar"))
  | ((with_reducible apply xDput_ev); (walk_at "ev"); rfl; (walk_at "ev"); rfl; with_reducible exact keyO_i; (walk_at "le"))
  | ((with_reducible apply xDpop_ev); rfl; (walk_at "ev"); rfl; with_reducible exact keyO_i; (walk_at "dg"))
  | ((with_reducible apply xAsgC_ev); (walk_at "dl"))
  | ((with_reducible apply xTup2_ev); (walk_at "nt"))
  | ((with_reducible apply xFrz_O); rfl; (walk_at "ex"))
  | ((with_reducible apply xFrz_D); rfl; (walk_at "ex"))
  | ((with_reducible apply xIf_D); (walk_at "be"); (first | ((with_reducible apply cd_T); (walk_at "tr"); (walk_at "ex")) | ((with_reducible apply cd_F); (walk_at "tr"); (walk_at "ex"))))
  | ((with_reducible apply xSeq_ev); (walk_at "ex"); (walk_at "ex")))
local macro_rules | `(tactic| walk_at "st") => `(tactic| ((first | refine rt_seq (by walk_at "ex") ?_ | refine seq_step (by walk_at "ex") ?_); try simp only [List.set_cons_succ, List.set_cons_zero]))
local macro_rules | `(tactic| walk_at "rt") => `(tactic| refine rt_is (rt_ret (by walk_at "ev")) ?_ ?_)
local macro_rules | `(tactic| walk_at "yes") => `(tactic| (first | refine rt_now (rt_T (by walk_at "be") (by walk_at "tr") ?_) | refine rt_T (by walk_at "be") (by walk_at "tr") ?_))
local macro_rules | `(tactic| walk_at "noo") => `(tactic| (first | refine rt_now (rt_F (by walk_at "be") (by walk_at "tr") ?_) | refine rt_F (by walk_at "be") (by walk_at "tr") ?_))
local macro_rules | `(tactic| walk_at "cq") => `(tactic| with_reducible assumption)
local macro_rules | `(tactic| walk_at "le") => `(tactic| first | omega | (simp only [List.length_cons, List.length_nil, List.length_append, List.length_map, List.length_set, List.length_range, nD_len]; omega) | decide)
local macro_rules | `(tactic| walk_at "sr") => `(tactic| repeat (first | with_reducible exact SetR.z | with_reducible apply SetR.s))
local macro_rules | `(tactic| walk_at "ha") => `(tactic| first | walk_at "op" | walk_at "at" | walk_at "bi" | walk_at "dg" | with_reducible rfl | rfl)
local macro_rules | `(tactic| walk_at "v") => `(tactic| first
  | with_reducible refine wp_seq ?_
  | with_reducible refine seqK_nx ?_
  | ((with_reducible apply wp_eVar); (rfl))
  | with_reducible refine wp_eC ?_
  | with_reducible refine wp_eOp ?_
  | with_reducible refine has_some ?_
  | ((with_reducible apply hasG_nm); (walk_at "sr"))
  | ((with_reducible apply hasG_tp); (rfl); (rfl))
  | with_reducible refine hasG_cons ?_
  | with_reducible refine hasG_nil ?_
  | ((with_reducible apply has_of); (walk_at "ha"))
  | with_reducible refine wp_eCall ?_
  | with_reducible refine wp_vE ?_
  | ((with_reducible apply wp_vR); (rfl))
  | with_reducible refine wp_vNil ?_
  | ((with_reducible apply fok_eq); (walk_at "cq"))
  | with_reducible refine wp_asg ?_
  | with_reducible refine wp_asgG ?_
  | with_reducible refine wp_asgL ?_
  | with_reducible refine wp_if ?_
  | with_reducible refine wp_ret ?_
  | with_reducible refine seqK_ret ?_
  | with_reducible refine retK_ret ?_
  | with_reducible refine wp_bTest ?_
  | with_reducible refine wp_bTru ?_
  | with_reducible refine wp_bNot ?_
  | with_reducible refine wp_eCB ?_
  | with_reducible refine wp_aCons ?_
  | with_reducible refine wp_aNil ?_
  | with_reducible refine wp_eUn ?_
  | with_reducible refine wp_eTup ?_
  | with_reducible refine wp_eL ?_
  | with_reducible refine wp_lLst ?_
  | with_reducible refine wp_eIf ?_
  | with_reducible refine wp_for ?_
  | with_reducible refine wp_iWipe ?_
  | with_reducible refine wp_iSq ?_
  | with_reducible refine wp_iRg1 ?_
  | with_reducible refine wp_iRg2 ?_
  | with_reducible refine wp_keep ?_
  | with_reducible refine wp_pre ?_
  | with_reducible refine wp_next ?_
  | with_reducible refine wp_break ?_
  | with_reducible refine wp_cont ?_
  | with_reducible refine bodyK_nx ?_
  | with_reducible refine bodyK_ct ?_
  | with_reducible refine bodyK_bk ?_
  | with_reducible refine bodyK_ret ?_
  | with_reducible refine seqK_bk ?_
  | with_reducible refine seqK_ct ?_
  | with_reducible refine retK_nx ?_
  | with_reducible refine wp_forNil ?_
  | with_reducible refine wp_eIsN ?_
  | with_reducible refine wp_eNotN ?_
  | with_reducible refine wp_eNot ?_
  | ((with_reducible apply wp_eIxV); (rfl))
  | ((with_reducible apply wp_eLenV); (rfl))
  | ((with_reducible apply wp_eTupleV); (rfl))
  | ((with_reducible apply wp_eSlV); (rfl))
  | with_reducible refine wp_eSl ?_
  | with_reducible refine wp_oNone ?_
  | with_reducible refine wp_oSome ?_
  | with_reducible refine wp_eInV ?_
  | ((with_reducible apply wp_ePopO); (rfl); (walk_at "gt"); (walk_at "sr"))
  | ((with_reducible apply wp_eDget); (exact ⟨_, rfl⟩))
  | ((with_reducible apply wp_eDget2); (exact ⟨_, rfl⟩))
  | with_reducible refine wp_eDin ?_
  | with_reducible refine wp_eDnot ?_
  | ((with_reducible apply wp_eLenD); (rfl))
  | with_reducible refine wp_eIsi ?_
  | with_reducible refine wp_eCallK ?_
  | with_reducible refine wp_eCallD ?_
  | with_reducible refine wp_lList ?_
  | with_reducible refine wp_lListRg ?_
  | with_reducible refine wp_lListRg2 ?_
  | with_reducible refine wp_iEn ?_
  | with_reducible refine wp_lRep ?_
  | ((with_reducible apply wp_lListV); (rfl))
  | ((with_reducible apply wp_lKeys); (rfl))
  | with_reducible refine wp_lLc ?_
  | with_reducible refine wp_bYes ?_
  | ((with_reducible apply wp_bTruV); (rfl))
  | ((with_reducible apply wp_bTruD); (rfl))
  | with_reducible refine wp_bIf ?_
  | with_reducible refine wp_lDnew ?_
  | with_reducible refine wp_lDc ?_
  | with_reducible refine wp_asgC ?_
  | with_reducible refine wp_newL ?_
  | with_reducible refine wp_retN ?_
  | with_reducible refine wp_drop ?_
  | ((with_reducible apply wp_app); (exact ⟨_, rfl⟩))
  | with_reducible refine wp_setI ?_
  | ((with_reducible apply wp_aug); (rfl))
  | ((with_reducible apply wp_frzO); (rfl); (walk_at "sr"))
  | ((with_reducible apply wp_frzD); (rfl))
  | with_reducible refine wp_par ?_
  | with_reducible refine wp_parDL ?_
  | with_reducible refine wp_parLD ?_
  | with_reducible refine wp_parLL ?_
  | with_reducible refine wp_par3 ?_
  | with_reducible refine wp_dput ?_
  | ((with_reducible apply wp_dpop); (exact ⟨_, rfl⟩))
  | with_reducible refine wp_tup2 ?_
  | with_reducible refine wp_tup3 ?_
  | with_reducible refine wp_tup4 ?_
  | with_reducible refine wp_uNil ?_
  | with_reducible refine wp_uD ?_
  | with_reducible refine wp_uL ?_
  | with_reducible refine wp_uC ?_
  | with_reducible refine wp_eChain ?_
  | (with_reducible refine wp_bAnd ?_; (repeat walk_at "v"); walk_at "br")
  | (with_reducible refine wp_bOr ?_; (repeat walk_at "v"); walk_at "br")
  | (with_reducible refine wp_eAnd ?_; (repeat walk_at "v"); walk_at "br")
  | (with_reducible refine wp_eOr ?_; (repeat walk_at "v"); walk_at "br")
  | with_reducible refine wp_bAndB ?_
  | with_reducible refine wp_bOrB ?_
  | with_reducible refine wp_eAndB ?_
  | with_reducible refine wp_eOrB ?_
  | walk_at "xx")
local macro_rules | `(tactic| walk_at "nk") => `(tactic| ((repeat walk_at "v"); first | exact ⟨rfl, rfl, rfl⟩ | exact ⟨rfl, rfl, by walk_at "op"⟩))
local macro_rules | `(tactic| walk_at "lt2") => `(tactic| first | omega | exact ⟨by omega, by omega⟩ | (simp only [List.length_cons, List.length_nil, List.length_append, List.length_map, List.length_set, nD_len]; omega))
local macro_rules | `(tactic| walk_at "ky") => `(tactic| first | with_reducible exact keyO_i | with_reducible exact keyO_s | rfl)
local macro_rules | `(tactic| walk_at "xx") => `(tactic| first
  | refine ⟨_, by walk_at "sr", ?_⟩
  | refine ⟨_, by with_reducible rfl, by omega, ?_⟩
  | refine ⟨_, by with_reducible rfl, by omega, by walk_at "le", ?_⟩
  | refine ⟨_, by with_reducible rfl, ?_⟩
  | ((with_reducible apply and_le); (walk_at "le"))
  | ((with_reducible apply and_bk); (rfl))
  | refine ⟨_, _, by rfl, by with_reducible rfl, ?_⟩
  | refine ⟨_, _, by rfl, by walk_at "ky", ?_⟩
  | refine ⟨_, _, by rfl, by walk_at "le", by walk_at "sr", ?_⟩
  | refine ⟨⟨_, by rfl⟩, ?_⟩
  | refine ⟨_, _, _, by with_reducible rfl, by rfl, by walk_at "lt2", by walk_at "sr", ?_⟩
  | refine ⟨_, _, _, by rfl, by walk_at "ky", by walk_at "lt2", by walk_at "sr", ?_⟩
  | refine ⟨_, _, _, by rfl, by walk_at "ky", by walk_at "gt", by walk_at "sr", ?_⟩
  | refine ⟨_, _, by walk_at "sr", by walk_at "sr", ?_⟩
  | refine ⟨_, _, _, _, by rfl, by walk_at "sr", by walk_at "sr", ?_⟩
  | refine ⟨_, _, _, _, _, _, by rfl, by walk_at "sr", by walk_at "sr", by walk_at "sr", ?_⟩
  | refine ⟨_, _, _, _, _, _, _, _, by rfl, by walk_at "sr", by walk_at "sr", by walk_at "sr", by walk_at "sr", ?_⟩
  | refine ⟨_, by walk_at "ki", ?_⟩
  | refine ⟨_, _, by with_reducible rfl, by with_reducible rfl, ?_⟩
  | refine ⟨_, _, by with_reducible rfl, by with_reducible rfl, by omega, by omega, ?_⟩
  | refine ⟨_, _, by walk_at "op", (fun _ => by walk_at "nk"), ?_⟩
  | refine ⟨_, _, by with_reducible rfl, (fun _ => by walk_at "nk"), ?_⟩
  | refine ⟨_, (fun _ => by walk_at "nk"), ?_⟩
  | refine ⟨_, by rfl, ?_⟩)
local macro_rules | `(tactic| walk_at "br") => `(tactic| first | ((with_reducible apply br_T); (walk_at "tr")) | ((with_reducible apply br_F); (walk_at "tr")))
local macro_rules | `(tactic| walk_at "vfn") => `(tactic| refine fok_fn (by (simp only [List.length_cons, List.length_nil, Nat.reduceAdd, Nat.reduceSub, List.replicate_succ, List.replicate_zero, List.cons_append, List.nil_append]; try rfl)) ?_)
local macro_rules | `(tactic| walk_at "vc") => `(tactic| repeat (first | walk_at "v" | walk_at "br" | with_reducible exact ⟨rfl, rfl, rfl⟩ | with_reducible exact ⟨rfl, rfl⟩))
local macro_rules | `(tactic| walk_at "wi") => `(tactic| (simp only [wipeV, List.set_cons_succ, List.set_cons_zero]; try rfl))
local macro_rules | `(tactic| walk_at "op") => `(tactic| ((with_reducible apply ixD_g); assumption))
local macro_rules | `(tactic| walk_at "bi") => `(tactic| with_reducible exact lenD_g)
local macro_rules | `(tactic| walk_at "bi") => `(tactic| with_reducible exact lenD_n)
local macro_rules | `(tactic| walk_at "cl") => `(tactic| ((with_reducible apply draw_eq) <;> first | omega | assumption))
local macro_rules | `(tactic| walk_at "cl") => `(tactic| ((with_reducible apply dworth_eq) <;> first | omega | assumption))
local macro_rules | `(tactic| walk_at "bi") => `(tactic| first | with_reducible exact lenD_gD _ | with_reducible exact lenD_nD _ | with_reducible exact lenD_nL _ | with_reducible exact gX_at (by assumption))
local macro_rules | `(tactic| walk_at "cq") => `(tactic| ((with_reducible apply moves_of_eq); first | omega | assumption))
local macro_rules | `(tactic| walk_at "cq") => `(tactic| ((with_reducible apply choice_eq) <;> assumption))
local macro_rules | `(tactic| walk_at "cq") => `(tactic| ((with_reducible apply worths_eq) <;> assumption))
local macro_rules | `(tactic| walk_at "bi") => `(tactic| first | ((with_reducible apply wors_ix); assumption) | ((with_reducible apply wors_ixL); assumption))
local macro_rules | `(tactic| walk_at "cq") => `(tactic| ((with_reducible apply best_moves_eq) <;> assumption))
local macro_rules | `(tactic| walk_at "cq") => `(tactic| ((with_reducible apply main_line_eq) <;> assumption))
def m_l_moves : X :=
  (xSeq (xAsgG (gTp 2 (gsCons (gNm 2) (gsCons (gNm 3) gsNil))) (eOp ixD (eVar 0) (eVar 1)))
  (xRet (eIf (bTest (eOp eqD (eVar 2) (eC (.str "end")))) (eL (lLst aNil)) (eL (lList (eVar 3))))))
def f_l_moves : FS := fnS 4 (m_l_moves )

theorem l_moves_eq {g : List Pl} (st : Sg) {p : Nat} (hp : p < g.length) : f_l_moves [.dat (gD g), .dat (.int (p : Int))] st = some (.dat (.list (nD (mvs g p))), st) := by
  have hx : g[p]? = some g[p] := List.getElem?_eq_getElem hp
  generalize g[p] = x at hx
  rw [mvs_eq hx]
  unfold f_l_moves m_l_moves
  refine fok_is ?_
  walk_at "vfn"
  cases x with
  | fin w => walk_at "vc"
  | mv sd ms => walk_at "vc"
local macro_rules | `(tactic| walk_at "cq") => `(tactic| ((with_reducible apply l_moves_eq); first | omega | assumption))
def m_l_worth (F_l_worth : FS) : X :=
  (xSeq (xAsgG (gTp 2 (gsCons (gNm 2) (gsCons (gNm 3) gsNil))) (eOp ixD (eVar 0) (eVar 1)))
  (xSeq (xIf (bTest (eOp eqD (eVar 2) (eC (.str "end"))))
    (xRet (eVar 3))
    xNext)
  (xSeq (xAsg 4 (eCB sortedD (aCons (eL (lLc [5] (iSq (eVar 3)) (gNm 5) bYes (eCall F_l_worth (vCons (vE (eVar 0)) (vCons (vE (eVar 5)) vNil))))) aNil)))
  (xRet (eIf (bTest (eOp eqD (eVar 2) (eC (.int 0)))) (eOp ixD (eVar 4) (eUn negD (eC (.int 1)))) (eOp ixD (eVar 4) (eC (.int 0))))))))
def r_l_worth : Nat → FS
  | 0 => fun _ _ => none
  | n + 1 => fnS 6 (m_l_worth (r_l_worth n))
def f_l_worth : FS := r_l_worth 40

theorem l_worth_run {g : List Pl} {rk : Nat → Nat} (hg : Good g) (hrk : Rk g rk) (st : Sg) : ∀ (n p : Nat), rk p < n → p < g.length → r_l_worth n [.dat (gD g), .dat (.int (p : Int))] st = some (.dat (.int (wor g p)), st)
  | 0, p, h, _ => absurd h (Nat.not_lt_zero _)
  | n + 1, p, h, hp => by
    have hx : g[p]? = some g[p] := List.getElem?_eq_getElem hp
    generalize g[p] = x at hx
    unfold r_l_worth m_l_worth
    refine fok_is ?_
    walk_at "vfn"
    cases x with
    | fin w =>
      rw [wor_fin hrk hx]
      walk_at "vc"
    | mv sd ms =>
      obtain ⟨q1, q2, q3, q4, q5⟩ := hg.ok p _ hx
      rw [wor_mv hrk hx]
      walk_at "vc"
      refine lcw_map (xs := ms) (fun m => .int (m : Nat)) (wI g) (by rfl) (by rfl) (by omega) (by walk_at "wi") (fun m hm => ?_) ?_
      · have := hrk.dn p _ m hx hm
        have ih := l_worth_run hg hrk st n m (by omega) (q4 m hm)
        walk_at "vc"
      · have e1 : ms.map (wI g) = (ms.map (wor g)).map PyData.int := by rw [List.map_map]; rfl
        have hne : ms.map (wor g) ≠ [] := fun z => q2 (by simpa using z)
        have hs := sortedD_i (ns := ms.map (wor g))
        have hlen : (sortI (ms.map (wor g))).length = (ms.map (wor g)).length := sortI_len _
        have h1 : ((sortI (ms.map (wor g))).map PyData.int)[((sortI (ms.map (wor g))).map PyData.int).length - 1]? = some (.int (maxI (ms.map (wor g)))) := by
          rw [List.length_map, hlen, List.getElem?_map, sortI_last hne]; rfl
        have h2 : ((sortI (ms.map (wor g))).map PyData.int)[0]? = some (.int (minI (ms.map (wor g)))) := by
          rw [List.getElem?_map, sortI_first hne]; rfl
        rw [e1]
        rcases q1 with rfl | rfl
        · walk_at "vc"
        · walk_at "vc"
theorem l_worth_eq {g : List Pl} (hg : Good g) (hst : Straight g) (st : Sg) {p : Nat} (hp : p < g.length) : f_l_worth [.dat (gD g), .dat (.int (p : Int))] st = some (.dat (.int (wor g p)), st) := by
  obtain ⟨rk, hrk⟩ := hst.rk
  have := hrk.lt p hp
  have := hg.len
  exact l_worth_run hg hrk st _ p (by omega) hp
local macro_rules | `(tactic| walk_at "cq") => `(tactic| ((with_reducible apply l_worth_eq) <;> assumption))
def b_law_k05_1 (F_l_straight F_l_draw F_l_worth F_l_same F_worths F_l_moves F_best_moves F_main_line : FS) : X :=
  (xApp 8 (eOp ixD (eL (lLc [7] (iSq (eCall F_l_moves (vCons (vE (eVar 3)) (vCons (vE (eIxV 8 (eUn negD (eC (.int 1))))) vNil)))) (gNm 7) (bTest (eOp eqD (eOp ixD (eVar 4) (eVar 7)) (eOp ixD (eVar 4) (eVar 5)))) (eVar 7))) (eC (.int 0))))
def b_law_k05_2 (F_l_straight F_l_draw F_l_worth F_l_same F_worths F_l_moves F_best_moves F_main_line : FS) : X :=
  (xSeq (xAsg 6 (eL (lLc [7] (iSq (eCall F_l_moves (vCons (vE (eVar 3)) (vCons (vE (eVar 5)) vNil)))) (gNm 7) (bTest (eOp eqD (eOp ixD (eVar 4) (eVar 7)) (eOp ixD (eVar 4) (eVar 5)))) (eVar 7))))
      (xSeq (xIf (bNot (bTru (eCall F_l_same (vCons (vE (eCall F_best_moves (vCons (vE (eVar 3)) (vCons (vE (eVar 5)) vNil)))) (vCons (vE (eCB tupleD (aCons (eVar 6) aNil))) vNil)))))
        (xRet (eC (.bool false)))
        xNext)
      (xSeq (xAsgL 8 (lLst (aCons (eVar 5) aNil)))
      (xSeq (xPre [2, 6, 7] (xWhile (bTru (eCall F_l_moves (vCons (vE (eVar 3)) (vCons (vE (eIxV 8 (eUn negD (eC (.int 1))))) vNil))))
        (xKeep [2, 6, 7] (b_law_k05_1 F_l_straight F_l_draw F_l_worth F_l_same F_worths F_l_moves F_best_moves F_main_line))))
      (xIf (bNot (bTru (eCall F_l_same (vCons (vE (eCall F_main_line (vCons (vE (eVar 3)) (vCons (vE (eVar 5)) vNil)))) (vCons (vE (eTupleV 8)) vNil)))))
        (xRet (eC (.bool false)))
        xNext)))))
def b_law_k05_3 (F_l_straight F_l_draw F_l_worth F_l_same F_worths F_l_moves F_best_moves F_main_line : FS) : X :=
  (xSeq (xAsg 3 (eCall F_l_straight (vCons (vE (eVar 0)) (vCons (vR 1) (vCons (vE (eOp plusD (eC (.int 1)) (eCall F_l_draw (vCons (vE (eVar 0)) (vCons (vR 1) (vCons (vE (eC (.int 10))) vNil)))))) vNil)))))
    (xSeq (xAsg 4 (eL (lLc [5] (iRg1 (eCB lenD (aCons (eVar 3) aNil))) (gNm 5) bYes (eCall F_l_worth (vCons (vE (eVar 3)) (vCons (vE (eVar 5)) vNil))))))
    (xSeq (xIf (bNot (bTru (eCall F_l_same (vCons (vE (eCall F_worths (vCons (vE (eVar 3)) vNil))) (vCons (vE (eCB tupleD (aCons (eVar 4) aNil))) vNil)))))
      (xRet (eC (.bool false)))
      xNext)
    (xFor (iWipe [2, 5, 6, 7, 8] (iRg1 (eCB lenD (aCons (eVar 3) aNil)))) (gNm 5)
      (xKeep [2, 5, 6, 7, 8] (b_law_k05_2 F_l_straight F_l_draw F_l_worth F_l_same F_worths F_l_moves F_best_moves F_main_line))))))
def m_law_k05 (F_l_straight F_l_draw F_l_worth F_l_same F_worths F_l_moves F_best_moves F_main_line : FS) : X :=
  (xSeq (xNewL 1 (lLst aNil))
  (xSeq (xFor (iWipe [2, 3, 4, 5, 6, 7, 8] (iRg1 (eC (.int 6)))) (gNm 2)
    (xKeep [2, 3, 4, 5, 6, 7, 8] (b_law_k05_3 F_l_straight F_l_draw F_l_worth F_l_same F_worths F_l_moves F_best_moves F_main_line)))
  (xRet (eC (.bool true)))))
def f_law_k05 : FS := fnS 9 (m_law_k05 f_l_straight f_l_draw f_l_worth f_l_same f_worths f_l_moves f_best_moves f_main_line)

theorem main_len {g : List Pl} : ∀ (k p : Nat), (lineP g k p).length ≤ k + 1
  | 0, p => by simp [lineP]
  | k + 1, p => by
    rw [lineP]
    split
    · simp
    · rename_i m r e
      have := main_len (g := g) k m
      simp
      omega
theorem law05_place (ns : List Int) (hz : ns.length ≤ 63) {g : List Pl} (hg : Good g) (hst : Straight g) {p : Nat} (hp : p < g.length) (st : Sg) {N : Lo → Sg → Prop} {Q : Out → Lo → Sg → Prop}
    (hq : N [scr ns, .ref 0, .no, .dat (gD g), .dat (.list (worsD g)), .no, .no, .no, .no] st) :
    Wp (xKeep [2, 5, 6, 7, 8] (b_law_k05_2 f_l_straight f_l_draw f_l_worth f_l_same f_worths f_l_moves f_best_moves f_main_line)) [scr ns, .ref 0, .no, .dat (gD g), .dat (.list (worsD g)), .dat (.int (p : Int)), .no, .no, .no] st (bodyK N Q) := by
  have hl := hg.len
  obtain ⟨rk, hrk⟩ := hst.rk
  have hlen : ∀ c, (mvs g c).length ≤ 30 := fun c => Nat.le_trans (nodup_len (mvs_nodup hg c) fun m hm => mvs_lt hg hm) hl
  unfold b_law_k05_2
  walk_at "vc"
  refine lcw_pure (xs := mvs g p) (fun m => .int (m : Nat)) (fun m => decide (wor g m = wor g p)) (fun m => .int (m : Nat)) (by rfl) (by rfl) (by have := hlen p; omega) (by walk_at "wi") (fun m hm => ?_) ?_
  · have hm' := mvs_lt hg hm
    walk_at "vc"
    refine ⟨⟨rfl, rfl, rfl⟩, fun _ => ?_⟩
    walk_at "vc"
  · have e1 : (((mvs g p).filter fun m => decide (wor g m = wor g p)).map fun m : Nat => PyData.int (m : Nat)) = nD (bestP g p) := rfl
    rw [e1]
    have hb : (bestP g p).length ≤ 30 := Nat.le_trans (List.length_filter_le _ _) (hlen p)
    walk_at "vc"
    refine same_ok (plain_nD (by omega)) ?_
    walk_at "vc"
    refine wp_while (σ := List Nat × Nat) (fun s => [scr ns, .ref 0, .no, .dat (gD g), .dat (.list (worsD g)), .dat (.int (p : Int)), .no, .no, .own (nD (s.1 ++ [s.2]))]) (fun _ => st) (fun s => s.2 < g.length ∧ wor g s.2 = wor g p ∧ s.1 ++ mainP g s.2 = mainP g p ∧ s.1.length + rk s.2 ≤ g.length) (fun s => rk s.2) ([], p) ⟨hp, rfl, rfl, by have := hrk.lt p hp; simp; omega⟩ (by have := hrk.lt p hp; simp; omega) ?_
    rintro ⟨pre, c⟩ ⟨h1, hw, h2, h3⟩
    have hlast := last_snoc pre c
    simp only at h1 h2 h3 hw
    walk_at "vc"
    refine br_C (fun hb => ?_) (fun hb => ?_)
    · have hne : mvs g c ≠ [] := fun z => by rw [z] at hb; cases hb
      unfold b_law_k05_1
      walk_at "vc"
      refine lcw_pure (xs := mvs g c) (fun m => .int (m : Nat)) (fun m => decide (wor g m = wor g p)) (fun m => .int (m : Nat)) (by rfl) (by rfl) (by have := hlen c; omega) (by walk_at "wi") (fun m hm => ?_) ?_
      · have hm' := mvs_lt hg hm
        walk_at "vc"
        refine ⟨⟨rfl, rfl, rfl⟩, fun _ => ?_⟩
        walk_at "vc"
      · cases hbp : bestP g c with
        | nil => exact absurd hbp (best_ne hg hrk hne)
        | cons m r =>
          have hmm := best_sub (show m ∈ bestP g c by rw [hbp]; simp)
          have e1 : ((mvs g c).filter fun m => decide (wor g m = wor g p)) = m :: r := by rw [← hw]; exact hbp
          have hpre : pre.length < 1000 := by omega
          have hrm := mvs_rk hrk hmm.1
          rw [e1]
          walk_at "vc"
          refine ⟨(pre ++ [c], m), ?_, rfl, ⟨mvs_lt hg hmm.1, by rw [← hw]; exact hmm.2, ?_, ?_⟩, hrm⟩
          · show _ = [scr ns, .ref 0, .no, .dat (gD g), .dat (.list (worsD g)), .dat (.int (p : Int)), .no, .no, .own (nD ((pre ++ [c]) ++ [m]))]
            rw [show nD ((pre ++ [c]) ++ [m]) = nD (pre ++ [c]) ++ [.int (m : Nat)] by unfold nD; rw [List.map_append (l₁ := pre ++ [c])]; rfl]
            rfl
          · rw [← h2, main_cons hrk h1 hbp]
            simp
          · simp; omega
    · have hne : mvs g c = [] := by
        cases hz : mvs g c with
        | nil => rfl
        | cons => rw [hz] at hb; cases hb
      walk_at "vc"
      rw [show pre ++ [c] = mainP g p by rw [← h2, main_nil hne]]
      have hml := main_len (g := g) g.length p
      refine same_ok (plain_nD (by unfold mainP; omega)) ?_
      walk_at "vc"
      exact hq
theorem law_true (ns : List Int) (hz : ns.length ≤ 63) : ∃ g, f_law_k05 [.dat (.list (ns.map .int))] [] = some (.dat (.bool true), g) := by
  suffices h : FOk f_law_k05 [scr ns] [] fun v _ => v = .dat (.bool true) by
    obtain ⟨v, g, e, rfl⟩ := h
    exact ⟨g, e⟩
  unfold f_law_k05 m_law_k05
  walk_at "vfn"
  walk_at "vc"
  refine wp_forI (fun i l g' => l = [scr ns, .ref 0, .no, .no, .no, .no, .no, .no, .no] ∧ ∃ n, n ≤ 400 * i ∧ g' = tw ns n []) ⟨rfl, 0, Nat.le_refl _, rfl⟩ ?_ ?_
  · rintro i d l g' hd ⟨rfl, n, hn, rfl⟩
    obtain ⟨hi, rfl⟩ := rng_get hd
    have hi : i < 6 := hi
    unfold b_law_k05_3
    walk_at "vc"
    refine draw_ok hz (by omega) (by omega) fun k hk => ?_
    walk_at "vc"
    refine straight_ok hz (by omega) (by omega) (by omega) fun g n1 hgl hg hst h1 h2 => ?_
    have hl := hg.len
    walk_at "vc"
    rw [Int.toNat_natCast, rng_nat]
    refine lcw_map (xs := List.range g.length) (fun m => .int (m : Nat)) (wI g) (by rfl) (by rfl) (by rw [List.length_range]; omega) (by walk_at "wi") (fun m hm => ?_) ?_
    · have hm := List.mem_range.mp hm
      walk_at "vc"
    · walk_at "vc"
      refine same_ok (plain_ints (by rw [List.length_range]; omega)) ?_
      walk_at "vc"
      rw [Int.toNat_natCast, rng_nat]
      refine wp_forI (fun i l g' => l = [scr ns, .ref 0, .no, .dat (gD g), .dat (.list (worsD g)), .no, .no, .no, .no] ∧ g' = tw ns n1 []) ⟨rfl, rfl⟩ ?_ ?_
      · rintro j d l g' hd ⟨rfl, rfl⟩
        obtain ⟨p, hp, rfl⟩ := nD_at hd
        have hp := List.mem_range.mp (List.mem_of_getElem? hp)
        walk_at "v"
        refine law05_place ns hz hg hst hp _ ⟨rfl, rfl⟩
      · rintro l g' ⟨rfl, rfl⟩
        walk_at "vc"
        exact ⟨rfl, n1, by omega, rfl⟩
  · rintro l g' ⟨rfl, n, hn, rfl⟩
    walk_at "vc"
    rfl

end
end Sm
namespace W
open PySem PySem.Spec PyProof.Rows L2 RZ SrtO Dz Sm
def top (i : Nat) : Stmt := PySem.Challenge.pw_searchduel_k05_worths_by_all_lines.main.body.getD i (.Pass ⟨0, 0, 0, 0⟩)
structure Bn (mg : Str → Option Value) : Prop where
  len : mg "len" = none
  list : mg "list" = none
  tuple : mg "tuple" = none
  range : mg "range" = none
  zip : mg "zip" = none
  enumerate : mg "enumerate" = none
  abs : mg "abs" = none
  max : mg "max" = none
  min : mg "min" = none
  sum : mg "sum" = none
  all : mg "all" = none
  any : mg "any" = none
  sorted : mg "sorted" = none
  isinstance : mg "isinstance" = none
  int : mg "int" = none
  bool : mg "bool" = none
  str : mg "str" = none
variable {P : Program} {w : World} {K : PySem.W.Frag} {mg : Str → Option Value} {base : Heap}
/-- a script -/
def Scr (sc : PyData) : Prop := ∃ ns : List Int, sc = .list (ns.map .int) ∧ ns.length ≤ 63
theorem cxK {CX : CXT} {P : Program} {w : World} {K : PySem.W.Frag} {mg : Str → Option Value} {base : Heap} {N : List Str} {q : Str} {sc : Scope} {f : Addr} {cd : Value} {A : Around} {o : List PySem.Env} {s : Shared} {H : Hp} {E : XK} : (cxOf CX P w K mg base N q sc f cd A o s H E).K = K := rfl

/-! ### what the top has written -/
structure DefAt (K : PySem.W.Frag) (x : Str) (st : Stmt) : Prop where
  at_ : ∃ (f : Addr) (oc : Value) (od : Option Addr) (kV dc pm : Value) (an : Option Addr) (cd ct : Value) (sl : Array (Option Value)), PySem.W.nsIn K mainGlobals x = some (some (.ref f)) ∧
    K.lookup f = some ⟨oc, od, .func (PySem.W.fnOf x x (defArgs st) (defBody st) (defScope st) .none kV dc pm an cd ct), sl⟩ ∧ PySem.W.codeIn K cd x = true ∧ PySem.W.keepIn K (.ref f) = true
theorem def_at {K : PySem.W.Frag} {x : Str} {st : Stmt} {f : Addr} {oc : Value} {od an : Option Addr} {kV dc pm cd ct : Value} {sl : Array (Option Value)} (a : PySem.W.nsIn K mainGlobals x = some (some (.ref f)))
    (l : K.lookup f = some ⟨oc, od, .func (PySem.W.fnOf x x (defArgs st) (defBody st) (defScope st) .none kV dc pm an cd ct), sl⟩) (c : PySem.W.codeIn K cd x = true) (k : PySem.W.keepIn K (.ref f) = true) : DefAt K x st := ⟨f, oc, od, kV, dc, pm, an, cd, ct, sl, a, l, c, k⟩
theorem DefAt.ex {K : PySem.W.Frag} {x : Str} {st : Stmt} {h : Heap} {mg : Str → Option Value} (d : DefAt K x st) (X : K.In h) (G : h.Ns mainGlobals mg) : ∃ (f : Addr) (fd : FuncData), Fun K x x st f fd ∧ mg x = some (.ref f) := by
  obtain ⟨f, oc, od, kV, dc, pm, an, cd, ct, sl, a, l, c, k⟩ := d.at_
  exact ⟨f, _, fun_mk l c k, PySem.W.mg_of X G a⟩

abbrev s_moves_of : Stmt := top 1
theorem sc_moves_of : FnScope ["game", "place", "side", "moves"] ["game", "place"] (defScope s_moves_of) := ⟨rfl, rfl, rfl, by decide +kernel, rfl, by decide +kernel, by decide +kernel⟩

theorem ok_moves_of {f : Addr} {fd : FuncData} {k : Nat} (F : Fun K "moves_of" "moves_of" s_moves_of f fd) (B : Bn mg)
     :
    FnOk P w K mg base CX0 (k + 1) f fd ["game", "place"] (spG K 2 (fnS 4 (m_moves_of ))) := by
  refine F.ok sc_moves_of (fun vs H Q E h => spG_len h) (fun cdv A outer s H vs Q E hr h => ⟨_,
  (pss_cons (ps_asg (pe_ix (k_ix K) (pv 0) (pv 1) (fun _ _ => rfl)) (k_tup (n := 2) K rfl (pgs_cons (pg_name (i := 2) sc_moves_of.nd rfl (by first | exact Or.inl rfl | exact Or.inr rfl)) (pgs_cons (pg_name (i := 3) sc_moves_of.nd rfl (by first | exact Or.inl rfl | exact Or.inr rfl)) pgs_nil))))
  (pss_one (ps_ret (pe_ifExp (pt_cmpR (k_eq K hr.units) (pv 2) pe_str (nomark _)) (pe_tup pa_nil) (pv 3))))), ?_⟩)
  try simp only [cxK]
  exact run_fn (x := m_moves_of )
    ((x_seq (x_asgG (s_op ro_ix s_var s_var) (b_tup (bs_cons b_name (bs_cons b_name bs_nil))))
  (x_ret (s_if (s_test (s_op ro_eq s_var s_str)) (s_tup s_nil) s_var))))
    rfl h

abbrev s_order_of : Stmt := top 2
theorem sc_order_of : FnScope ["game", "left", "place", "order", "ready", "many", "first", "rest"] ["game"] (defScope s_order_of) := ⟨rfl, rfl, rfl, by decide +kernel, rfl, by decide +kernel, by decide +kernel⟩

theorem ok_order_of {f : Addr} {fd : FuncData} {k : Nat} {F_moves_of : FS} (F : Fun K "order_of" "order_of" s_order_of f fd) (B : Bn mg)
    (c_moves_of : Cal P w K mg base k "moves_of" ["game", "place"] (spG K 2 F_moves_of)) :
    FnOk P w K mg base CX0 (k + 1) f fd ["game"] (spG K 1 (fnS 8 (m_order_of F_moves_of))) := by
  refine F.ok sc_order_of (fun vs H Q E h => spG_len h) (fun cdv A outer s H vs Q E hr h => ⟨_,
  (pss_cons (ps_setDc (i := 1) (own := [("place", 2)]) (by rfl) sc_order_of.nd rfl rfl (sw_trueD rfl rfl rfl (by decide +kernel)) (pi_range1 (by rfl) B.range (pa_cons (pe_callB (k_len K) (by rfl) B.len (by decide +kernel) (pa_cons (pv 0) pa_nil)) pa_nil)) (blkOk_by (own := [("place", 2)]) (N := ["game", "left", "place", "order", "ready", "many", "first", "rest"]) (sc := defScope s_order_of) (by decide +kernel)) (fun _ _ _ _ _ => (pg_name (i := 2) sc_order_of.nd rfl (by first | exact Or.inl rfl | exact Or.inr rfl))) (fun _ _ _ _ _ => pts_nil) (fun _ _ _ _ _ => (pv 2)) (fun _ _ _ _ _ => (pe_callB (k_len K) (by rfl) B.len (by decide +kernel) (pa_cons (pe_cal c_moves_of hr (pa_cons (pv 0) (pa_cons (pv 2) pa_nil))) pa_nil))))
  (pss_cons (ps_set (i := 3) sc_order_of.nd rfl (by first | exact Or.inl rfl | exact Or.inr rfl) (pe_lst pa_nil))
  (pss_cons (ps_while PassesOwn.never (k_tru K (pv 1) (by intro _; rfl))
    (pss_cons (ps_lock (ps_setLc (i := 4) (own := [("place", 2), ("many", 5)]) (by rfl) sc_order_of.nd rfl rfl (sw_true rfl rfl rfl (by decide +kernel)) (pi_items (pv 1)) (blkOk_by (own := [("place", 2), ("many", 5)]) (N := ["game", "left", "place", "order", "ready", "many", "first", "rest"]) (sc := defScope s_order_of) (by decide +kernel)) (fun _ _ _ _ _ => (k_tup (n := 2) K rfl (pgs_cons (pg_name (i := 2) sc_order_of.nd rfl (by first | exact Or.inl rfl | exact Or.inr rfl)) (pgs_cons (pg_name (i := 5) sc_order_of.nd rfl (by first | exact Or.inl rfl | exact Or.inr rfl)) pgs_nil)))) (fun _ _ _ _ _ => pts_one (pt_cmpR (k_eq K hr.units) (pv 5) pe_int (nomark _))) (fun _ _ _ _ _ => (pv 2))))
    (pss_cons (ps_if (pt_not (k_tru K (pv 4) (by intro _; rfl)))
      (pss_one (ps_ret pe_non))
      pss_nil)
    (pss_cons (ps_asg (pe_callB (k_sorted K) (by rfl) B.sorted (by decide +kernel) (pa_cons (pv 4) pa_nil)) (pg_star (n := 2) (i := 1) K rfl (pgs_cons (pg_name (i := 6) sc_order_of.nd rfl (by first | exact Or.inl rfl | exact Or.inr rfl)) (pgs_star (pg_name (i := 7) sc_order_of.nd rfl (by first | exact Or.inl rfl | exact Or.inr rfl)) pgs_nil)) (by decide)))
    (pss_cons (ps_expr (pe_bm PySem.F.plainAttrs_list PySem.F.slot_list_append PySem.F.type_list_append mt_append (pv 3) (pa_cons (pv 6) pa_nil)))
    (pss_cons (ps_expr (pe_dpop1 (pv 1) (pv 6) ⟨rfl, rfl, rfl, rfl⟩))
    (pss_one (ps_for PassesOwn.never rfl (k_seq K (pe_callTy (call_list_dK rfl) (by rfl) B.list (by decide +kernel) (pa_cons (pv 1) pa_nil))) (pg_name (i := 2) sc_order_of.nd rfl (by first | exact Or.inl rfl | exact Or.inr rfl))
      (pss_one (ps_if (pt_cmpR (k_in K) (pv 6) (pe_cal c_moves_of hr (pa_cons (pv 0) (pa_cons (pv 2) pa_nil))) (by rfl))
        (pss_one (ps_dput (un1 hr) (pv 1) (pv 2) (pe_op op_sub (pe_dget (un1 hr) (pv 1) (pv 2) (fun _ _ => rfl)) pe_int) rfl))
        pss_nil))))))))))
  (pss_one (ps_ret (pe_callTy (k_tuple K) (by rfl) B.tuple (by decide +kernel) (pa_cons (pv 3) pa_nil))))))), ?_⟩)
  try simp only [cxK]
  exact run_fn (x := m_order_of F_moves_of)
    ((x_seq (x_asgC (s_dc (vs := [2]) (s_irg1 (s_cb rc_len (s_cons s_var s_nil))) (gin_name (by decide)) gmono_name b_name s_yes s_var (s_cb rc_len (s_cons (s_call (s_vcons (s_vE s_var) (s_vcons (s_vE s_var) s_vnil)) (vn_cons (vn_cons vn_nil))) s_nil))))
  (x_seq (x_asgL (s_lst s_nil))
  (x_seq (x_pre (x_while s_truD
    (x_keep (x_seq (x_items (vs := [2, 5]) (by decide) (gin_tup (gins_cons (gin_name (by decide)) (gins_cons (gin_name (by decide)) gins_nil gmono_name) gmono_name)) (gmono_tup (gmonos_cons gmono_name (gmonos_cons gmono_name gmonos_nil))) (b_tup (bs_cons b_name (bs_cons b_name bs_nil))) (s_test (s_op ro_eq s_var s_int)) s_var)
    (x_seq (x_if (s_bnot (s_tru s_var))
      (x_ret s_non)
      x_next)
    (x_seq (x_asgG (s_cb rc_sortedD (s_cons s_var s_nil)) (b_star (bs_cons b_name (bs_cons b_name bs_nil))))
    (x_seq (x_app s_var)
    (x_seq (x_dpop s_var)
    (x_for (s_iwipe (s_iseq (s_ofL s_keys))) b_name
      (x_keep (x_if (s_test (s_op ro_in s_var (s_call (s_vcons (s_vE s_var) (s_vcons (s_vE s_var) s_vnil)) (vn_cons (vn_cons vn_nil)))))
        (x_dput s_var (s_op ro_sub (s_dget s_var) s_int))
        x_next)))))))))))
  (x_ret s_tupleV)))))
    rfl h

abbrev s_choice : Stmt := top 4
theorem sc_choice : FnScope ["side", "row"] ["side", "row"] (defScope s_choice) := ⟨rfl, rfl, rfl, by decide +kernel, rfl, by decide +kernel, by decide +kernel⟩

theorem ok_choice {f : Addr} {fd : FuncData} {k : Nat} (F : Fun K "choice" "choice" s_choice f fd) (B : Bn mg)
     :
    FnOk P w K mg base CX0 (k + 1) f fd ["side", "row"] (spG K 2 (fnS 2 (m_choice ))) := by
  refine F.ok sc_choice (fun vs H Q E h => spG_len h) (fun cdv A outer s H vs Q E hr h => ⟨_,
  (pss_one (ps_ret (pe_ifExp (pt_cmpR (k_eq K hr.units) (pv 0) pe_int (nomark _)) (pe_callB (k_max K rfl) (by rfl) B.max (by decide +kernel) (pa_cons (pv 1) pa_nil)) (pe_callB (k_min K rfl) (by rfl) B.min (by decide +kernel) (pa_cons (pv 1) pa_nil))))), ?_⟩)
  try simp only [cxK]
  exact run_fn (x := m_choice )
    ((x_ret (s_if (s_test (s_op ro_eq s_var s_int)) (s_cb rc_maxD (s_cons s_var s_nil)) (s_cb rc_minD (s_cons s_var s_nil)))))
    rfl h

abbrev s_worths : Stmt := top 5
theorem sc_worths : FnScope ["game", "found", "place", "side", "more", "move"] ["game"] (defScope s_worths) := ⟨rfl, rfl, rfl, by decide +kernel, rfl, by decide +kernel, by decide +kernel⟩

theorem ok_worths {f : Addr} {fd : FuncData} {k : Nat} {F_order_of F_choice : FS} (F : Fun K "worths" "worths" s_worths f fd) (B : Bn mg)
    (c_order_of : Cal P w K mg base k "order_of" ["game"] (spG K 1 F_order_of))
    (c_choice : Cal P w K mg base k "choice" ["side", "row"] (spG K 2 F_choice)) :
    FnOk P w K mg base CX0 (k + 1) f fd ["game"] (spG K 1 (fnS 6 (m_worths F_order_of F_choice))) := by
  refine F.ok sc_worths (fun vs H Q E h => spG_len h) (fun cdv A outer s H vs Q E hr h => ⟨_,
  (pss_cons (ps_set (i := 1) sc_worths.nd rfl (by first | exact Or.inl rfl | exact Or.inr rfl) pe_dnewK)
  (pss_cons (ps_for PassesOwn.never rfl (k_seq K (pe_cal c_order_of hr (pa_cons (pv 0) pa_nil))) (pg_name (i := 2) sc_worths.nd rfl (by first | exact Or.inl rfl | exact Or.inr rfl))
    (pss_cons (ps_asg (pe_ix (k_ix K) (pv 0) (pv 2) (fun _ _ => rfl)) (k_tup (n := 2) K rfl (pgs_cons (pg_name (i := 3) sc_worths.nd rfl (by first | exact Or.inl rfl | exact Or.inr rfl)) (pgs_cons (pg_name (i := 4) sc_worths.nd rfl (by first | exact Or.inl rfl | exact Or.inr rfl)) pgs_nil))))
    (pss_one (ps_dput (un1 hr) (pv 1) (pv 2) (pe_ifExp (pt_cmpR (k_eq K hr.units) (pv 3) pe_str (nomark _)) (pv 4) (pe_cal c_choice hr (pa_cons (pv 3) (pa_cons (pe_lc (own := [("move", 5)]) (by rfl) sc_worths.nd (k_seq K (pv 4)) (blkOk_by (own := [("move", 5)]) (N := ["game", "found", "place", "side", "more", "move"]) (sc := defScope s_worths) (by decide +kernel)) (fun _ _ _ _ _ => (pg_name (i := 5) sc_worths.nd rfl (by first | exact Or.inl rfl | exact Or.inr rfl))) (fun _ _ _ _ _ => pts_nil) (fun _ _ _ _ _ => (pe_dget (un1 hr) (pv 1) (pv 5) (fun _ _ => rfl)))) pa_nil)))) rfl))))
  (pss_one (ps_ret (pe_callTy (k_tuple K) (by rfl) B.tuple (by decide +kernel) (pa_cons (pe_lc (own := [("place", 2)]) (by rfl) sc_worths.nd (pi_range1 (by rfl) B.range (pa_cons (pe_callB (k_len K) (by rfl) B.len (by decide +kernel) (pa_cons (pv 0) pa_nil)) pa_nil)) (blkOk_by (own := [("place", 2)]) (N := ["game", "found", "place", "side", "more", "move"]) (sc := defScope s_worths) (by decide +kernel)) (fun _ _ _ _ _ => (pg_name (i := 2) sc_worths.nd rfl (by first | exact Or.inl rfl | exact Or.inr rfl))) (fun _ _ _ _ _ => pts_nil) (fun _ _ _ _ _ => (pe_dget (un1 hr) (pv 1) (pv 2) (fun _ _ => rfl)))) pa_nil)))))), ?_⟩)
  try simp only [cxK]
  exact run_fn (x := m_worths F_order_of F_choice)
    ((x_seq (x_asgC s_dnew)
  (x_seq (x_for (s_iwipe (s_iseq (s_call (s_vcons (s_vE s_var) s_vnil) (vn_cons vn_nil)))) b_name
    (x_keep (x_seq (x_asgG (s_op ro_ix s_var s_var) (b_tup (bs_cons b_name (bs_cons b_name bs_nil))))
    (x_dput s_var (s_if (s_test (s_op ro_eq s_var s_str)) s_var (s_call (s_vcons (s_vE s_var) (s_vcons (s_vE (s_ofL (s_lc (vs := [5]) (s_iseq s_var) (gin_name (by decide)) gmono_name b_name s_yes (s_dget s_var)))) s_vnil)) (vn_cons (vn_cons vn_nil))))))))
  (x_ret (s_cb rc_tuple (s_cons (s_ofL (s_lc (vs := [2]) (s_irg1 (s_cb rc_len (s_cons s_var s_nil))) (gin_name (by decide)) gmono_name b_name s_yes (s_dget s_var))) s_nil))))))
    rfl h

abbrev s_best_moves : Stmt := top 6
theorem sc_best_moves : FnScope ["game", "place", "found", "move"] ["game", "place"] (defScope s_best_moves) := ⟨rfl, rfl, rfl, by decide +kernel, rfl, by decide +kernel, by decide +kernel⟩

theorem ok_best_moves {f : Addr} {fd : FuncData} {k : Nat} {F_worths F_moves_of : FS} (F : Fun K "best_moves" "best_moves" s_best_moves f fd) (B : Bn mg)
    (c_worths : Cal P w K mg base k "worths" ["game"] (spG K 1 F_worths))
    (c_moves_of : Cal P w K mg base k "moves_of" ["game", "place"] (spG K 2 F_moves_of)) :
    FnOk P w K mg base CX0 (k + 1) f fd ["game", "place"] (spG K 2 (fnS 4 (m_best_moves F_worths F_moves_of))) := by
  refine F.ok sc_best_moves (fun vs H Q E h => spG_len h) (fun cdv A outer s H vs Q E hr h => ⟨_,
  (pss_cons (ps_set (i := 2) sc_best_moves.nd rfl (by first | exact Or.inl rfl | exact Or.inr rfl) (pe_cal c_worths hr (pa_cons (pv 0) pa_nil)))
  (pss_one (ps_ret (pe_callTy (k_tuple K) (by rfl) B.tuple (by decide +kernel) (pa_cons (pe_lc (own := [("move", 3)]) (by rfl) sc_best_moves.nd (k_seq K (pe_cal c_moves_of hr (pa_cons (pv 0) (pa_cons (pv 1) pa_nil)))) (blkOk_by (own := [("move", 3)]) (N := ["game", "place", "found", "move"]) (sc := defScope s_best_moves) (by decide +kernel)) (fun _ _ _ _ _ => (pg_name (i := 3) sc_best_moves.nd rfl (by first | exact Or.inl rfl | exact Or.inr rfl))) (fun _ _ _ _ _ => pts_one (pt_cmpR (k_eq K hr.units) (pe_ix (k_ix K) (pv 2) (pv 3) (fun _ _ => rfl)) (pe_ix (k_ix K) (pv 2) (pv 1) (fun _ _ => rfl)) (nomark _))) (fun _ _ _ _ _ => (pv 3))) pa_nil))))), ?_⟩)
  try simp only [cxK]
  exact run_fn (x := m_best_moves F_worths F_moves_of)
    ((x_seq (x_asg (s_call (s_vcons (s_vE s_var) s_vnil) (vn_cons vn_nil)))
  (x_ret (s_cb rc_tuple (s_cons (s_ofL (s_lc (vs := [3]) (s_iseq (s_call (s_vcons (s_vE s_var) (s_vcons (s_vE s_var) s_vnil)) (vn_cons (vn_cons vn_nil)))) (gin_name (by decide)) gmono_name b_name (s_test (s_op ro_eq (s_op ro_ix s_var s_var) (s_op ro_ix s_var s_var))) s_var)) s_nil)))))
    rfl h

abbrev s_main_line : Stmt := top 7
theorem sc_main_line : FnScope ["game", "place", "found", "row", "move"] ["game", "place"] (defScope s_main_line) := ⟨rfl, rfl, rfl, by decide +kernel, rfl, by decide +kernel, by decide +kernel⟩

theorem ok_main_line {f : Addr} {fd : FuncData} {k : Nat} {F_worths F_moves_of : FS} (F : Fun K "main_line" "main_line" s_main_line f fd) (B : Bn mg)
    (c_worths : Cal P w K mg base k "worths" ["game"] (spG K 1 F_worths))
    (c_moves_of : Cal P w K mg base k "moves_of" ["game", "place"] (spG K 2 F_moves_of)) :
    FnOk P w K mg base CX0 (k + 1) f fd ["game", "place"] (spG K 2 (fnS 5 (m_main_line F_worths F_moves_of))) := by
  refine F.ok sc_main_line (fun vs H Q E h => spG_len h) (fun cdv A outer s H vs Q E hr h => ⟨_,
  (pss_cons (ps_asg (pe_tup (pa_cons (pe_cal c_worths hr (pa_cons (pv 0) pa_nil)) (pa_cons (pe_lst (pa_cons (pv 1) pa_nil)) pa_nil))) (k_tup (n := 2) K rfl (pgs_cons (pg_name (i := 2) sc_main_line.nd rfl (by first | exact Or.inl rfl | exact Or.inr rfl)) (pgs_cons (pg_name (i := 3) sc_main_line.nd rfl (by first | exact Or.inl rfl | exact Or.inr rfl)) pgs_nil))))
  (pss_cons (ps_while PassesOwn.never (k_tru K (pe_cal c_moves_of hr (pa_cons (pv 0) (pa_cons (pe_ix (k_ix K) (pv 3) (pe_un un_neg pe_int) (fun _ _ => rfl)) pa_nil))) (by intro _; rfl))
    (pss_one (ps_expr (pe_bm PySem.F.plainAttrs_list PySem.F.slot_list_append PySem.F.type_list_append mt_append (pv 3) (pa_cons (pe_ix (k_ix K) (pe_lc (own := [("move", 4)]) (by rfl) sc_main_line.nd (k_seq K (pe_cal c_moves_of hr (pa_cons (pv 0) (pa_cons (pe_ix (k_ix K) (pv 3) (pe_un un_neg pe_int) (fun _ _ => rfl)) pa_nil)))) (blkOk_by (own := [("move", 4)]) (N := ["game", "place", "found", "row", "move"]) (sc := defScope s_main_line) (by decide +kernel)) (fun _ _ _ _ _ => (pg_name (i := 4) sc_main_line.nd rfl (by first | exact Or.inl rfl | exact Or.inr rfl))) (fun _ _ _ _ _ => pts_one (pt_cmpR (k_eq K hr.units) (pe_ix (k_ix K) (pv 2) (pv 4) (fun _ _ => rfl)) (pe_ix (k_ix K) (pv 2) (pe_ix (k_ix K) (pv 3) (pe_un un_neg pe_int) (fun _ _ => rfl)) (fun _ _ => rfl)) (nomark _))) (fun _ _ _ _ _ => (pv 4))) pe_int (fun _ _ => rfl)) pa_nil)))))
  (pss_one (ps_ret (pe_callTy (k_tuple K) (by rfl) B.tuple (by decide +kernel) (pa_cons (pv 3) pa_nil)))))), ?_⟩)
  try simp only [cxK]
  exact run_fn (x := m_main_line F_worths F_moves_of)
    ((x_seq (x_tup (is := [2, 3]) (u_D (s_call (s_vcons (s_vE s_var) s_vnil) (vn_cons vn_nil)) (u_L (s_lst (s_cons s_var s_nil)) u_nil)) rfl)
  (x_seq (x_pre (x_while (s_tru (s_call (s_vcons (s_vE s_var) (s_vcons (s_vE (s_ixV (s_un ro_neg s_int))) s_vnil)) (vn_cons (vn_cons vn_nil))))
    (x_keep (x_app (s_op ro_ix (s_ofL (s_lc (vs := [4]) (s_iseq (s_call (s_vcons (s_vE s_var) (s_vcons (s_vE (s_ixV (s_un ro_neg s_int))) s_vnil)) (vn_cons (vn_cons vn_nil)))) (gin_name (by decide)) gmono_name b_name (s_test (s_op ro_eq (s_op ro_ix s_var s_var) (s_op ro_ix s_var (s_ixV (s_un ro_neg s_int))))) s_var)) s_int)))))
  (x_ret s_tupleV))))
    rfl h

abbrev s_l_same : Stmt := top 9
theorem sc_l_same : FnScope ["_law_got", "_law_due", "_law_one", "_law_other"] ["_law_got", "_law_due"] (defScope s_l_same) := ⟨rfl, rfl, rfl, by decide +kernel, rfl, by decide +kernel, by decide +kernel⟩

theorem ok_l_same {f : Addr} {fd : FuncData} {k : Nat} {F_l_same : FS} (F : Fun K "_law_same" "_law_same" s_l_same f fd) (B : Bn mg)
    (c_l_same : Cal P w K mg base k "_law_same" ["_law_got", "_law_due"] (spG K 2 F_l_same)) :
    FnOk P w K mg base CX0 (k + 1) f fd ["_law_got", "_law_due"] (spG K 2 (fnS 4 (m_l_same F_l_same))) := by
  refine F.ok sc_l_same (fun vs H Q E h => spG_len h) (fun cdv A outer s H vs Q E hr h => ⟨_,
  (pss_cons (ps_if (pt_cmp (pc_isN (pv 1)))
    (pss_one (ps_ret (pe_cmp (pc_isN (pv 0)) rfl)))
    pss_nil)
  (pss_cons (ps_if (k_tru K (pe_callB (k_isi K) (by rfl) B.isinstance (by decide +kernel) (pa_cons (pv 1) (pa_cons (pe_bltn (v := .ty "bool") (by rfl) B.bool (by decide +kernel) rfl) pa_nil))) (by intro _; rfl))
    (pss_one (ps_ret (k_andT K (pe_callB (k_isi K) (by rfl) B.isinstance (by decide +kernel) (pa_cons (pv 0) (pa_cons (pe_bltn (v := .ty "bool") (by rfl) B.bool (by decide +kernel) rfl) pa_nil))) (pe_one (pe_cmpR (k_eq K hr.units) (pv 0) (pv 1) (nomark _))))))
    pss_nil)
  (pss_cons (ps_if (k_tru K (pe_callB (k_isi K) (by rfl) B.isinstance (by decide +kernel) (pa_cons (pv 1) (pa_cons (pe_bltn (v := .ty "tuple") (by rfl) B.tuple (by decide +kernel) rfl) pa_nil))) (by intro _; rfl))
    (pss_cons (ps_if (PW.pt (pw_or (pt_not (k_tru K (pe_callB (k_isi K) (by rfl) B.isinstance (by decide +kernel) (pa_cons (pv 0) (pa_cons (pe_bltn (v := .ty "tuple") (by rfl) B.tuple (by decide +kernel) rfl) pa_nil))) (by intro _; rfl))) (pw_or1 (pt_cmpR (k_ne K hr.units) (pe_callB (k_len K) (by rfl) B.len (by decide +kernel) (pa_cons (pv 0) pa_nil)) (pe_callB (k_len K) (by rfl) B.len (by decide +kernel) (pa_cons (pv 1) pa_nil)) (nomark _)))))
      (pss_one (ps_ret pe_bl))
      pss_nil)
    (pss_one (ps_ret (pe_callB (k_all K rfl) (by rfl) B.all (by decide +kernel) (pa_cons (pe_lc (own := [("_law_one", 2), ("_law_other", 3)]) (by rfl) sc_l_same.nd (pi_zipA (by rfl) B.zip (pa_cons (pv 0) (pa_cons (pv 1) pa_nil))) (blkOk_by (own := [("_law_one", 2), ("_law_other", 3)]) (N := ["_law_got", "_law_due", "_law_one", "_law_other"]) (sc := defScope s_l_same) (by decide +kernel)) (fun _ _ _ _ _ => (k_tup (n := 2) K rfl (pgs_cons (pg_name (i := 2) sc_l_same.nd rfl (by first | exact Or.inl rfl | exact Or.inr rfl)) (pgs_cons (pg_name (i := 3) sc_l_same.nd rfl (by first | exact Or.inl rfl | exact Or.inr rfl)) pgs_nil)))) (fun _ _ _ _ _ => pts_nil) (fun _ _ _ _ _ => (pe_cal c_l_same hr (pa_cons (pv 2) (pa_cons (pv 3) pa_nil))))) pa_nil)))))
    pss_nil)
  (pss_cons (ps_if (k_tru K (pe_callB (k_isi K) (by rfl) B.isinstance (by decide +kernel) (pa_cons (pv 1) (pa_cons (pe_bltn (v := .ty "str") (by rfl) B.str (by decide +kernel) rfl) pa_nil))) (by intro _; rfl))
    (pss_one (ps_ret (k_andT K (pe_callB (k_isi K) (by rfl) B.isinstance (by decide +kernel) (pa_cons (pv 0) (pa_cons (pe_bltn (v := .ty "str") (by rfl) B.str (by decide +kernel) rfl) pa_nil))) (pe_one (pe_cmpR (k_eq K hr.units) (pv 0) (pv 1) (nomark _))))))
    pss_nil)
  (pss_one (ps_ret (k_andT K (pe_callB (k_isi K) (by rfl) B.isinstance (by decide +kernel) (pa_cons (pv 0) (pa_cons (pe_bltn (v := .ty "int") (by rfl) B.int (by decide +kernel) rfl) pa_nil))) (k_andT K (k_notT K (pe_callB (k_isi K) (by rfl) B.isinstance (by decide +kernel) (pa_cons (pv 0) (pa_cons (pe_bltn (v := .ty "bool") (by rfl) B.bool (by decide +kernel) rfl) pa_nil)))) (pe_one (pe_cmpR (k_eq K hr.units) (pv 0) (pv 1) (nomark _))))))))))), ?_⟩)
  try simp only [cxK]
  exact run_fn (x := m_l_same F_l_same)
    ((x_seq (x_if (s_B (s_isN s_var))
    (x_ret (s_isN s_var))
    x_next)
  (x_seq (x_if (s_tru (s_isi s_var))
    (x_ret (s_and (s_isi s_var) (s_op ro_eq s_var s_var)))
    x_next)
  (x_seq (x_if (s_tru (s_isi s_var))
    (x_seq (x_if (s_bor (s_bnot (s_tru (s_isi s_var))) (s_test (s_op ro_ne (s_cb rc_len (s_cons s_var s_nil)) (s_cb rc_len (s_cons s_var s_nil)))))
      (x_ret s_bl)
      x_next)
    (x_ret (s_cb rc_allD (s_cons (s_ofL (s_lc (vs := [2, 3]) (s_izip s_var s_var) (gin_tup (gins_cons (gin_name (by decide)) (gins_cons (gin_name (by decide)) gins_nil gmono_name) gmono_name)) (gmono_tup (gmonos_cons gmono_name (gmonos_cons gmono_name gmonos_nil))) (b_tup (bs_cons b_name (bs_cons b_name bs_nil))) s_yes (s_call (s_vcons (s_vE s_var) (s_vcons (s_vE s_var) s_vnil)) (vn_cons (vn_cons vn_nil))))) s_nil))))
    x_next)
  (x_seq (x_if (s_tru (s_isi s_var))
    (x_ret (s_and (s_isi s_var) (s_op ro_eq s_var s_var)))
    x_next)
  (x_ret (s_and (s_isi s_var) (s_and (s_not (s_isi s_var)) (s_op ro_eq s_var s_var)))))))))
    rfl h

abbrev s_l_draw : Stmt := top 10
theorem sc_l_draw : FnScope ["_law_script", "_law_town", "_law_many", "_law_cell", "_law_k", "_law_digits", "_law_number", "_law_more"] ["_law_script", "_law_town", "_law_many"] (defScope s_l_draw) := ⟨rfl, rfl, rfl, by decide +kernel, rfl, by decide +kernel, by decide +kernel⟩

theorem ok_l_draw {f : Addr} {fd : FuncData} {k : Nat} (F : Fun K "_law_draw" "_law_draw" s_l_draw f fd) (B : Bn mg)
     :
    FnOk P w K mg base CX0 (k + 1) f fd ["_law_script", "_law_town", "_law_many"] (spG K 3 (fnS 8 (m_l_draw ))) := by
  refine F.ok sc_l_draw (fun vs H Q E h => spG_len h) (fun cdv A outer s H vs Q E hr h => ⟨_,
  (pss_cons (ps_if (pt_not (k_tru K (pv 1) (by intro _; rfl)))
    (pss_one (ps_expr (pe_bm PySem.F.plainAttrs_list PySem.F.slot_list_append PySem.F.type_list_append mt_append (pv 1) (pa_cons (pe_callB (k_max K rfl) (by rfl) B.max (by decide +kernel) (pa_cons (pe_op (k_plus K) (pe_lc (own := [("_law_cell", 3)]) (by rfl) sc_l_draw.nd (k_seq K (pv 0)) (blkOk_by (own := [("_law_cell", 3)]) (N := ["_law_script", "_law_town", "_law_many", "_law_cell", "_law_k", "_law_digits", "_law_number", "_law_more"]) (sc := defScope s_l_draw) (by decide +kernel)) (fun _ _ _ _ _ => (pg_name (i := 3) sc_l_draw.nd rfl (by first | exact Or.inl rfl | exact Or.inr rfl))) (fun _ _ _ _ _ => pts_nil) (fun _ _ _ _ _ => (pe_callB call_abs (by rfl) B.abs (by decide +kernel) (pa_cons (pv 3) pa_nil)))) (pe_lst (pa_cons pe_int pa_nil))) pa_nil)) pa_nil))))
    pss_nil)
  (pss_cons (ps_expr (pe_bm PySem.F.plainAttrs_list PySem.F.slot_list_append PySem.F.type_list_append mt_append (pv 1) (pa_cons pe_int pa_nil)))
  (pss_cons (ps_set (i := 4) sc_l_draw.nd rfl (by first | exact Or.inl rfl | exact Or.inr rfl) (pe_callB (k_len K) (by rfl) B.len (by decide +kernel) (pa_cons (pv 1) pa_nil)))
  (pss_cons (ps_set (i := 3) sc_l_draw.nd rfl (by first | exact Or.inl rfl | exact Or.inr rfl) (pe_ifExp (k_tru K (pv 0) (by intro _; rfl)) (pe_ix (k_ix K) (pv 0) (pe_op op_mod (pv 4) (pe_callB (k_len K) (by rfl) B.len (by decide +kernel) (pa_cons (pv 0) pa_nil))) (fun _ _ => rfl)) pe_int))
  (pss_cons (ps_set (i := 5) sc_l_draw.nd rfl (by first | exact Or.inl rfl | exact Or.inr rfl) (pe_op op_mod (pe_ix (k_ix K) (pv 1) pe_int (fun _ _ => rfl)) pe_int))
  (pss_cons (ps_asg (pe_op op_fdiv (pe_ix (k_ix K) (pv 1) pe_int (fun _ _ => rfl)) pe_int) (pg_sub (pv 1) pe_int set_list))
  (pss_cons (ps_set (i := 6) sc_l_draw.nd rfl (by first | exact Or.inl rfl | exact Or.inr rfl) (pe_op op_mod (pe_op (k_plus K) (pe_op (k_plus K) (pv 3) (pe_op op_times pe_int (pv 5))) (pe_op op_times pe_int (pv 4))) pe_int))
  (pss_cons (ps_set (i := 6) sc_l_draw.nd rfl (by first | exact Or.inl rfl | exact Or.inr rfl) (pe_op op_mod (pe_op op_times (pe_op op_mod (pe_op op_times (pv 6) (pv 6)) pe_int) pe_int) pe_int))
  (pss_cons (ps_set (i := 7) sc_l_draw.nd rfl (by first | exact Or.inl rfl | exact Or.inr rfl) (pe_op op_mod (pe_op op_times (pe_op op_mod (pe_op op_times (pv 6) (pv 6)) pe_int) pe_int) pe_int))
  (pss_one (ps_ret (pe_op op_mod (pe_op (k_plus K) (pe_op op_times (pe_op op_fdiv (pv 6) pe_int) pe_int) (pe_op op_fdiv (pv 7) pe_int)) (pv 2))))))))))))), ?_⟩)
  try simp only [cxK]
  exact run_fn (x := m_l_draw )
    ((x_seq (x_if (s_bnot s_truV)
    (x_app (s_cb rc_maxD (s_cons (s_op ro_plus (s_ofL (s_lc (vs := [3]) (s_iseq s_var) (gin_name (by decide)) gmono_name b_name s_yes (s_cb rc_absD (s_cons s_var s_nil)))) (s_ofL (s_lst (s_cons s_int s_nil)))) s_nil)))
    x_next)
  (x_seq (x_app s_int)
  (x_seq (x_asg s_lenV)
  (x_seq (x_asg (s_if (s_tru s_var) (s_op ro_ix s_var (s_op ro_mod s_var (s_cb rc_len (s_cons s_var s_nil)))) s_int))
  (x_seq (x_asg (s_op ro_mod (s_ixV s_int) s_int))
  (x_seq (x_setI s_int (s_op ro_fdiv (s_ixV s_int) s_int))
  (x_seq (x_asg (s_op ro_mod (s_op ro_plus (s_op ro_plus s_var (s_op ro_times s_int s_var)) (s_op ro_times s_int s_var)) s_int))
  (x_seq (x_asg (s_op ro_mod (s_op ro_times (s_op ro_mod (s_op ro_times s_var s_var) s_int) s_int) s_int))
  (x_seq (x_asg (s_op ro_mod (s_op ro_times (s_op ro_mod (s_op ro_times s_var s_var) s_int) s_int) s_int))
  (x_ret (s_op ro_mod (s_op ro_plus (s_op ro_times (s_op ro_fdiv s_var s_int) s_int) (s_op ro_fdiv s_var s_int)) s_var))))))))))))
    rfl h

abbrev s_l_pick : Stmt := top 11
theorem sc_l_pick : FnScope ["_law_script", "_law_town", "_law_some"] ["_law_script", "_law_town", "_law_some"] (defScope s_l_pick) := ⟨rfl, rfl, rfl, by decide +kernel, rfl, by decide +kernel, by decide +kernel⟩

theorem ok_l_pick {f : Addr} {fd : FuncData} {k : Nat} {F_l_draw : FS} (F : Fun K "_law_pick" "_law_pick" s_l_pick f fd) (B : Bn mg)
    (c_l_draw : Cal P w K mg base k "_law_draw" ["_law_script", "_law_town", "_law_many"] (spG K 3 F_l_draw)) :
    FnOk P w K mg base CX0 (k + 1) f fd ["_law_script", "_law_town", "_law_some"] (spG K 3 (fnS 3 (m_l_pick F_l_draw))) := by
  refine F.ok sc_l_pick (fun vs H Q E h => spG_len h) (fun cdv A outer s H vs Q E hr h => ⟨_,
  (pss_one (ps_ret (pe_ix (k_ix K) (pv 2) (pe_cal c_l_draw hr (pa_cons (pv 0) (pa_cons (pv 1) (pa_cons (pe_callB (k_len K) (by rfl) B.len (by decide +kernel) (pa_cons (pv 2) pa_nil)) pa_nil)))) (fun _ _ => rfl)))), ?_⟩)
  try simp only [cxK]
  exact run_fn (x := m_l_pick F_l_draw)
    ((x_ret (s_op ro_ix s_var (s_call (s_vcons (s_vE s_var) (s_vcons s_vR (s_vcons (s_vE (s_cb rc_len (s_cons s_var s_nil))) s_vnil))) (vn_cons (vn_cons (vn_cons vn_nil)))))))
    rfl h

abbrev s_l_mixed : Stmt := top 12
theorem sc_l_mixed : FnScope ["_law_script", "_law_town", "_law_things", "_law_rest", "_law_found"] ["_law_script", "_law_town", "_law_things"] (defScope s_l_mixed) := ⟨rfl, rfl, rfl, by decide +kernel, rfl, by decide +kernel, by decide +kernel⟩

theorem ok_l_mixed {f : Addr} {fd : FuncData} {k : Nat} {F_l_draw : FS} (F : Fun K "_law_mixed" "_law_mixed" s_l_mixed f fd) (B : Bn mg)
    (c_l_draw : Cal P w K mg base k "_law_draw" ["_law_script", "_law_town", "_law_many"] (spG K 3 F_l_draw)) :
    FnOk P w K mg base CX0 (k + 1) f fd ["_law_script", "_law_town", "_law_things"] (spG K 3 (fnS 5 (m_l_mixed F_l_draw))) := by
  refine F.ok sc_l_mixed (fun vs H Q E h => spG_len h) (fun cdv A outer s H vs Q E hr h => ⟨_,
  (pss_cons (ps_par (i := 3) (j := 4) (by rfl) sc_l_mixed.nd rfl rfl (by decide) rfl rfl (pa_cons (pe_callTy (k_list K) (by rfl) B.list (by decide +kernel) (pa_cons (pv 2) pa_nil)) (pa_cons (pe_lst pa_nil) pa_nil)) (by rfl))
  (pss_cons (ps_while PassesOwn.never (k_tru K (pv 3) (by intro _; rfl))
    (pss_one (ps_expr (pe_bm PySem.F.plainAttrs_list PySem.F.slot_list_append PySem.F.type_list_append mt_append (pv 4) (pa_cons (pe_bm PySem.F.plainAttrs_list PySem.F.slot_list_pop PySem.F.type_list_pop mt_popAt (pv 3) (pa_cons (pe_cal c_l_draw hr (pa_cons (pv 0) (pa_cons (pv 1) (pa_cons (pe_callB (k_len K) (by rfl) B.len (by decide +kernel) (pa_cons (pv 3) pa_nil)) pa_nil)))) pa_nil)) pa_nil)))))
  (pss_one (ps_ret (pv 4))))), ?_⟩)
  try simp only [cxK]
  exact run_fn (x := m_l_mixed F_l_draw)
    ((x_seq (x_parLL (by decide) (s_list s_var) (s_lst s_nil))
  (x_seq (x_while s_truV
    (x_app (s_popAt (s_call (s_vcons (s_vE s_var) (s_vcons s_vR (s_vcons (s_vE s_lenV) s_vnil))) (vn_cons (vn_cons (vn_cons vn_nil)))))))
  (x_frz (x_ret s_var)))))
    rfl h

abbrev s_l_drawn_worth : Stmt := top 13
theorem sc_l_drawn_worth : FnScope ["_law_script", "_law_town", "_law_few"] ["_law_script", "_law_town"] (defScope s_l_drawn_worth) := ⟨rfl, rfl, rfl, by decide +kernel, rfl, by decide +kernel, by decide +kernel⟩

theorem ok_l_drawn_worth {f : Addr} {fd : FuncData} {k : Nat} {F_l_draw F_l_pick : FS} (F : Fun K "_law_drawn_worth" "_law_drawn_worth" s_l_drawn_worth f fd) (B : Bn mg)
    (c_l_draw : Cal P w K mg base k "_law_draw" ["_law_script", "_law_town", "_law_many"] (spG K 3 F_l_draw))
    (c_l_pick : Cal P w K mg base k "_law_pick" ["_law_script", "_law_town", "_law_some"] (spG K 3 F_l_pick)) :
    FnOk P w K mg base CX0 (k + 1) f fd ["_law_script", "_law_town"] (spG K 2 (fnS 3 (m_l_drawn_worth F_l_draw F_l_pick))) := by
  refine F.ok sc_l_drawn_worth (fun vs H Q E h => spG_len h) (fun cdv A outer s H vs Q E hr h => ⟨_,
  (pss_cons (ps_set (i := 2) sc_l_drawn_worth.nd rfl (by first | exact Or.inl rfl | exact Or.inr rfl) (pe_op op_sub (pe_cal c_l_draw hr (pa_cons (pv 0) (pa_cons (pv 1) (pa_cons pe_int pa_nil)))) pe_int))
  (pss_one (ps_ret (pe_cal c_l_pick hr (pa_cons (pv 0) (pa_cons (pv 1) (pa_cons (pe_lst (pa_cons (pv 2) (pa_cons (pv 2) (pa_cons (pv 2) (pa_cons (pv 2) (pa_cons pe_int (pa_cons (pe_un un_neg pe_int) (pa_cons (pe_op op_sub (pe_cal c_l_draw hr (pa_cons (pv 0) (pa_cons (pv 1) (pa_cons pe_int pa_nil)))) pe_int) pa_nil)))))))) pa_nil))))))), ?_⟩)
  try simp only [cxK]
  exact run_fn (x := m_l_drawn_worth F_l_draw F_l_pick)
    ((x_seq (x_asg (s_op ro_sub (s_call (s_vcons (s_vE s_var) (s_vcons s_vR (s_vcons (s_vE s_int) s_vnil))) (vn_cons (vn_cons (vn_cons vn_nil)))) s_int))
  (x_ret (s_call (s_vcons (s_vE s_var) (s_vcons s_vR (s_vcons (s_vE (s_ofL (s_lst (s_cons s_var (s_cons s_var (s_cons s_var (s_cons s_var (s_cons s_int (s_cons (s_un ro_neg s_int) (s_cons (s_op ro_sub (s_call (s_vcons (s_vE s_var) (s_vcons s_vR (s_vcons (s_vE s_int) s_vnil))) (vn_cons (vn_cons (vn_cons vn_nil)))) s_int) s_nil)))))))))) s_vnil))) (vn_cons (vn_cons (vn_cons vn_nil)))))))
    rfl h

abbrev s_l_straight : Stmt := top 14
theorem sc_l_straight : FnScope ["_law_script", "_law_town", "_law_many", "_law_rows", "_law_place", "_law_some", "_law_names", "_law_found", "_law_side", "_law_more", "_law_move"] ["_law_script", "_law_town", "_law_many"] (defScope s_l_straight) := ⟨rfl, rfl, rfl, by decide +kernel, rfl, by decide +kernel, by decide +kernel⟩

theorem ok_l_straight {f : Addr} {fd : FuncData} {k : Nat} {F_l_draw F_l_mixed F_l_drawn_worth : FS} (F : Fun K "_law_straight" "_law_straight" s_l_straight f fd) (B : Bn mg)
    (c_l_draw : Cal P w K mg base k "_law_draw" ["_law_script", "_law_town", "_law_many"] (spG K 3 F_l_draw))
    (c_l_mixed : Cal P w K mg base k "_law_mixed" ["_law_script", "_law_town", "_law_things"] (spG K 3 F_l_mixed))
    (c_l_drawn_worth : Cal P w K mg base k "_law_drawn_worth" ["_law_script", "_law_town"] (spG K 2 F_l_drawn_worth)) :
    FnOk P w K mg base CX0 (k + 1) f fd ["_law_script", "_law_town", "_law_many"] (spG K 3 (fnS 11 (m_l_straight F_l_draw F_l_mixed F_l_drawn_worth))) := by
  refine F.ok sc_l_straight (fun vs H Q E h => spG_len h) (fun cdv A outer s H vs Q E hr h => ⟨_,
  (pss_cons (ps_set (i := 3) sc_l_straight.nd rfl (by first | exact Or.inl rfl | exact Or.inr rfl) (pe_lst pa_nil))
  (pss_cons (ps_for PassesOwn.never rfl (pi_range1 (by rfl) B.range (pa_cons (pv 2) pa_nil)) (pg_name (i := 4) sc_l_straight.nd rfl (by first | exact Or.inl rfl | exact Or.inr rfl))
    (pss_cons (ps_set (i := 5) sc_l_straight.nd rfl (by first | exact Or.inl rfl | exact Or.inr rfl) (pe_slice (k_sl K) (pe_cal c_l_mixed hr (pa_cons (pv 0) (pa_cons (pv 1) (pa_cons (pe_listRg rfl (by rfl) B.list (prg_1 (by rfl) B.range (pv 4))) pa_nil)))) po_none (po_some (pe_op (k_plus K) pe_int (pe_cal c_l_draw hr (pa_cons (pv 0) (pa_cons (pv 1) (pa_cons pe_int pa_nil))))))))
    (pss_one (ps_if (PW.pt (pw_or (pt_cmpR op_lt (pv 4) pe_int (nomark _)) (pw_or1 (pt_cmpR (k_eq K hr.units) (pe_cal c_l_draw hr (pa_cons (pv 0) (pa_cons (pv 1) (pa_cons pe_int pa_nil)))) pe_int (nomark _)))))
      (pss_one (ps_expr (pe_bm PySem.F.plainAttrs_list PySem.F.slot_list_append PySem.F.type_list_append mt_append (pv 3) (pa_cons (pe_tup (pa_cons pe_str (pa_cons (pe_cal c_l_drawn_worth hr (pa_cons (pv 0) (pa_cons (pv 1) pa_nil))) pa_nil))) pa_nil))))
      (pss_one (ps_expr (pe_bm PySem.F.plainAttrs_list PySem.F.slot_list_append PySem.F.type_list_append mt_append (pv 3) (pa_cons (pe_tup (pa_cons (pe_cal c_l_draw hr (pa_cons (pv 0) (pa_cons (pv 1) (pa_cons pe_int pa_nil)))) (pa_cons (pe_callTy (k_tuple K) (by rfl) B.tuple (by decide +kernel) (pa_cons (pv 5) pa_nil)) pa_nil))) pa_nil))))))))
  (pss_cons (ps_set (i := 6) sc_l_straight.nd rfl (by first | exact Or.inl rfl | exact Or.inr rfl) (pe_cal c_l_mixed hr (pa_cons (pv 0) (pa_cons (pv 1) (pa_cons (pe_listRg rfl (by rfl) B.list (prg_1 (by rfl) B.range (pv 2))) pa_nil)))))
  (pss_cons (ps_set (i := 7) sc_l_straight.nd rfl (by first | exact Or.inl rfl | exact Or.inr rfl) (pe_op op_times (pe_lst (pa_cons pe_non pa_nil)) (pv 2)))
  (pss_cons (ps_for PassesOwn.never rfl (pi_enum (by rfl) B.enumerate (pa_cons (pv 3) pa_nil)) (k_tup (n := 2) K rfl (pgs_cons (pg_name (i := 4) sc_l_straight.nd rfl (by first | exact Or.inl rfl | exact Or.inr rfl)) (pgs_cons (k_tup (n := 2) K rfl (pgs_cons (pg_name (i := 8) sc_l_straight.nd rfl (by first | exact Or.inl rfl | exact Or.inr rfl)) (pgs_cons (pg_name (i := 9) sc_l_straight.nd rfl (by first | exact Or.inl rfl | exact Or.inr rfl)) pgs_nil))) pgs_nil)))
    (pss_one (ps_asg (pe_ifExp (pt_cmpR (k_eq K hr.units) (pv 8) pe_str (nomark _)) (pe_tup (pa_cons (pv 8) (pa_cons (pv 9) pa_nil))) (pe_tup (pa_cons (pv 8) (pa_cons (pe_callTy (k_tuple K) (by rfl) B.tuple (by decide +kernel) (pa_cons (pe_lc (own := [("_law_move", 10)]) (by rfl) sc_l_straight.nd (k_seq K (pv 9)) (blkOk_by (own := [("_law_move", 10)]) (N := ["_law_script", "_law_town", "_law_many", "_law_rows", "_law_place", "_law_some", "_law_names", "_law_found", "_law_side", "_law_more", "_law_move"]) (sc := defScope s_l_straight) (by decide +kernel)) (fun _ _ _ _ _ => (pg_name (i := 10) sc_l_straight.nd rfl (by first | exact Or.inl rfl | exact Or.inr rfl))) (fun _ _ _ _ _ => pts_nil) (fun _ _ _ _ _ => (pe_ix (k_ix K) (pv 6) (pv 10) (fun _ _ => rfl)))) pa_nil)) pa_nil)))) (pg_sub (pv 7) (pe_ix (k_ix K) (pv 6) (pv 4) (fun _ _ => rfl)) set_list))))
  (pss_one (ps_ret (pe_callTy (k_tuple K) (by rfl) B.tuple (by decide +kernel) (pa_cons (pv 7) pa_nil))))))))), ?_⟩)
  try simp only [cxK]
  exact run_fn (x := m_l_straight F_l_draw F_l_mixed F_l_drawn_worth)
    ((x_seq (x_asgL (s_lst s_nil))
  (x_seq (x_for (s_irg1 s_var) b_name
    (x_seq (x_asg (s_sl (s_call (s_vcons (s_vE s_var) (s_vcons s_vR (s_vcons (s_vE (s_ofL (s_listRg s_var))) s_vnil))) (vn_cons (vn_cons (vn_cons vn_nil)))) s_onone (s_osome (s_op ro_plus s_int (s_call (s_vcons (s_vE s_var) (s_vcons s_vR (s_vcons (s_vE s_int) s_vnil))) (vn_cons (vn_cons (vn_cons vn_nil))))))))
    (x_if (s_bor (s_test (s_op ro_lt s_var s_int)) (s_test (s_op ro_eq (s_call (s_vcons (s_vE s_var) (s_vcons s_vR (s_vcons (s_vE s_int) s_vnil))) (vn_cons (vn_cons (vn_cons vn_nil)))) s_int)))
      (x_app (s_tup (s_cons s_str (s_cons (s_call (s_vcons (s_vE s_var) (s_vcons s_vR s_vnil)) (vn_cons (vn_cons vn_nil))) s_nil))))
      (x_app (s_tup (s_cons (s_call (s_vcons (s_vE s_var) (s_vcons s_vR (s_vcons (s_vE s_int) s_vnil))) (vn_cons (vn_cons (vn_cons vn_nil)))) (s_cons (s_cb rc_tuple (s_cons s_var s_nil)) s_nil)))))))
  (x_seq (x_asg (s_call (s_vcons (s_vE s_var) (s_vcons s_vR (s_vcons (s_vE (s_ofL (s_listRg s_var))) s_vnil))) (vn_cons (vn_cons (vn_cons vn_nil)))))
  (x_seq (x_asgL (s_rep (s_cons s_non s_nil) s_var))
  (x_seq (x_frz (x_for (s_ienum s_var) (b_tup (bs_cons b_name (bs_cons (b_tup (bs_cons b_name (bs_cons b_name bs_nil))) bs_nil)))
    (x_setI (s_op ro_ix s_var s_var) (s_if (s_test (s_op ro_eq s_var s_str)) (s_tup (s_cons s_var (s_cons s_var s_nil))) (s_tup (s_cons s_var (s_cons (s_cb rc_tuple (s_cons (s_ofL (s_lc (vs := [10]) (s_iseq s_var) (gin_name (by decide)) gmono_name b_name s_yes (s_op ro_ix s_var s_var))) s_nil)) s_nil)))))))
  (x_ret s_tupleV)))))))
    rfl h

abbrev s_l_moves : Stmt := top 15
theorem sc_l_moves : FnScope ["_law_game", "_law_place", "_law_side", "_law_more"] ["_law_game", "_law_place"] (defScope s_l_moves) := ⟨rfl, rfl, rfl, by decide +kernel, rfl, by decide +kernel, by decide +kernel⟩

theorem ok_l_moves {f : Addr} {fd : FuncData} {k : Nat} (F : Fun K "_law_moves" "_law_moves" s_l_moves f fd) (B : Bn mg)
     :
    FnOk P w K mg base CX0 (k + 1) f fd ["_law_game", "_law_place"] (spG K 2 (fnS 4 (m_l_moves ))) := by
  refine F.ok sc_l_moves (fun vs H Q E h => spG_len h) (fun cdv A outer s H vs Q E hr h => ⟨_,
  (pss_cons (ps_asg (pe_ix (k_ix K) (pv 0) (pv 1) (fun _ _ => rfl)) (k_tup (n := 2) K rfl (pgs_cons (pg_name (i := 2) sc_l_moves.nd rfl (by first | exact Or.inl rfl | exact Or.inr rfl)) (pgs_cons (pg_name (i := 3) sc_l_moves.nd rfl (by first | exact Or.inl rfl | exact Or.inr rfl)) pgs_nil))))
  (pss_one (ps_ret (pe_ifExp (pt_cmpR (k_eq K hr.units) (pv 2) pe_str (nomark _)) (pe_lst pa_nil) (pe_callTy (k_list K) (by rfl) B.list (by decide +kernel) (pa_cons (pv 3) pa_nil)))))), ?_⟩)
  try simp only [cxK]
  exact run_fn (x := m_l_moves )
    ((x_seq (x_asgG (s_op ro_ix s_var s_var) (b_tup (bs_cons b_name (bs_cons b_name bs_nil))))
  (x_ret (s_if (s_test (s_op ro_eq s_var s_str)) (s_ofL (s_lst s_nil)) (s_ofL (s_list s_var))))))
    rfl h

abbrev s_l_worth : Stmt := top 16
theorem sc_l_worth : FnScope ["_law_game", "_law_place", "_law_side", "_law_more", "_law_row", "_law_move"] ["_law_game", "_law_place"] (defScope s_l_worth) := ⟨rfl, rfl, rfl, by decide +kernel, rfl, by decide +kernel, by decide +kernel⟩

theorem ok_l_worth {f : Addr} {fd : FuncData} {k : Nat} {F_l_worth : FS} (F : Fun K "_law_worth" "_law_worth" s_l_worth f fd) (B : Bn mg)
    (c_l_worth : Cal P w K mg base k "_law_worth" ["_law_game", "_law_place"] (spG K 2 F_l_worth)) :
    FnOk P w K mg base CX0 (k + 1) f fd ["_law_game", "_law_place"] (spG K 2 (fnS 6 (m_l_worth F_l_worth))) := by
  refine F.ok sc_l_worth (fun vs H Q E h => spG_len h) (fun cdv A outer s H vs Q E hr h => ⟨_,
  (pss_cons (ps_asg (pe_ix (k_ix K) (pv 0) (pv 1) (fun _ _ => rfl)) (k_tup (n := 2) K rfl (pgs_cons (pg_name (i := 2) sc_l_worth.nd rfl (by first | exact Or.inl rfl | exact Or.inr rfl)) (pgs_cons (pg_name (i := 3) sc_l_worth.nd rfl (by first | exact Or.inl rfl | exact Or.inr rfl)) pgs_nil))))
  (pss_cons (ps_if (pt_cmpR (k_eq K hr.units) (pv 2) pe_str (nomark _))
    (pss_one (ps_ret (pv 3)))
    pss_nil)
  (pss_cons (ps_set (i := 4) sc_l_worth.nd rfl (by first | exact Or.inl rfl | exact Or.inr rfl) (pe_callB (k_sorted K) (by rfl) B.sorted (by decide +kernel) (pa_cons (pe_lc (own := [("_law_move", 5)]) (by rfl) sc_l_worth.nd (k_seq K (pv 3)) (blkOk_by (own := [("_law_move", 5)]) (N := ["_law_game", "_law_place", "_law_side", "_law_more", "_law_row", "_law_move"]) (sc := defScope s_l_worth) (by decide +kernel)) (fun _ _ _ _ _ => (pg_name (i := 5) sc_l_worth.nd rfl (by first | exact Or.inl rfl | exact Or.inr rfl))) (fun _ _ _ _ _ => pts_nil) (fun _ _ _ _ _ => (pe_cal c_l_worth hr (pa_cons (pv 0) (pa_cons (pv 5) pa_nil))))) pa_nil)))
  (pss_one (ps_ret (pe_ifExp (pt_cmpR (k_eq K hr.units) (pv 2) pe_int (nomark _)) (pe_ix (k_ix K) (pv 4) (pe_un un_neg pe_int) (fun _ _ => rfl)) (pe_ix (k_ix K) (pv 4) pe_int (fun _ _ => rfl)))))))), ?_⟩)
  try simp only [cxK]
  exact run_fn (x := m_l_worth F_l_worth)
    ((x_seq (x_asgG (s_op ro_ix s_var s_var) (b_tup (bs_cons b_name (bs_cons b_name bs_nil))))
  (x_seq (x_if (s_test (s_op ro_eq s_var s_str))
    (x_ret s_var)
    x_next)
  (x_seq (x_asg (s_cb rc_sortedD (s_cons (s_ofL (s_lc (vs := [5]) (s_iseq s_var) (gin_name (by decide)) gmono_name b_name s_yes (s_call (s_vcons (s_vE s_var) (s_vcons (s_vE s_var) s_vnil)) (vn_cons (vn_cons vn_nil))))) s_nil)))
  (x_ret (s_if (s_test (s_op ro_eq s_var s_int)) (s_op ro_ix s_var (s_un ro_neg s_int)) (s_op ro_ix s_var s_int)))))))
    rfl h

abbrev s_law : Stmt := top 17
theorem sc_law : FnScope ["_law_script", "_law_town", "_law_k", "_law_game", "_law_due", "_law_place", "_law_best", "_law_move", "_law_line"] ["_law_script"] (defScope s_law) := ⟨rfl, rfl, rfl, by decide +kernel, rfl, by decide +kernel, by decide +kernel⟩

theorem ok_law {f : Addr} {fd : FuncData} {k : Nat} {F_l_straight F_l_draw F_l_worth F_l_same F_worths F_l_moves F_best_moves F_main_line : FS} (F : Fun K "law" "law" s_law f fd) (B : Bn mg)
    (c_l_straight : Cal P w K mg base k "_law_straight" ["_law_script", "_law_town", "_law_many"] (spG K 3 F_l_straight))
    (c_l_draw : Cal P w K mg base k "_law_draw" ["_law_script", "_law_town", "_law_many"] (spG K 3 F_l_draw))
    (c_l_worth : Cal P w K mg base k "_law_worth" ["_law_game", "_law_place"] (spG K 2 F_l_worth))
    (c_l_same : Cal P w K mg base k "_law_same" ["_law_got", "_law_due"] (spG K 2 F_l_same))
    (c_worths : Cal P w K mg base k "worths" ["game"] (spG K 1 F_worths))
    (c_l_moves : Cal P w K mg base k "_law_moves" ["_law_game", "_law_place"] (spG K 2 F_l_moves))
    (c_best_moves : Cal P w K mg base k "best_moves" ["game", "place"] (spG K 2 F_best_moves))
    (c_main_line : Cal P w K mg base k "main_line" ["game", "place"] (spG K 2 F_main_line)) :
    FnOk P w K mg base CX0 (k + 1) f fd ["_law_script"] (spG K 1 (fnS 9 (m_law_k05 F_l_straight F_l_draw F_l_worth F_l_same F_worths F_l_moves F_best_moves F_main_line))) := by
  refine F.ok sc_law (fun vs H Q E h => spG_len h) (fun cdv A outer s H vs Q E hr h => ⟨_,
  (pss_cons (ps_set (i := 1) sc_law.nd rfl (by first | exact Or.inl rfl | exact Or.inr rfl) (pe_lst pa_nil))
  (pss_cons (ps_for PassesOwn.never rfl (pi_range1 (by rfl) B.range (pa_cons pe_int pa_nil)) (pg_name (i := 2) sc_law.nd rfl (by first | exact Or.inl rfl | exact Or.inr rfl))
    (pss_cons (ps_set (i := 3) sc_law.nd rfl (by first | exact Or.inl rfl | exact Or.inr rfl) (pe_cal c_l_straight hr (pa_cons (pv 0) (pa_cons (pv 1) (pa_cons (pe_op (k_plus K) pe_int (pe_cal c_l_draw hr (pa_cons (pv 0) (pa_cons (pv 1) (pa_cons pe_int pa_nil))))) pa_nil)))))
    (pss_cons (ps_set (i := 4) sc_law.nd rfl (by first | exact Or.inl rfl | exact Or.inr rfl) (pe_lc (own := [("_law_place", 5)]) (by rfl) sc_law.nd (pi_range1 (by rfl) B.range (pa_cons (pe_callB (k_len K) (by rfl) B.len (by decide +kernel) (pa_cons (pv 3) pa_nil)) pa_nil)) (blkOk_by (own := [("_law_place", 5)]) (N := ["_law_script", "_law_town", "_law_k", "_law_game", "_law_due", "_law_place", "_law_best", "_law_move", "_law_line"]) (sc := defScope s_law) (by decide +kernel)) (fun _ _ _ _ _ => (pg_name (i := 5) sc_law.nd rfl (by first | exact Or.inl rfl | exact Or.inr rfl))) (fun _ _ _ _ _ => pts_nil) (fun _ _ _ _ _ => (pe_cal c_l_worth hr (pa_cons (pv 3) (pa_cons (pv 5) pa_nil))))))
    (pss_cons (ps_if (pt_not (k_tru K (pe_cal c_l_same hr (pa_cons (pe_cal c_worths hr (pa_cons (pv 3) pa_nil)) (pa_cons (pe_callTy (k_tuple K) (by rfl) B.tuple (by decide +kernel) (pa_cons (pv 4) pa_nil)) pa_nil))) (by intro _; rfl)))
      (pss_one (ps_ret pe_bl))
      pss_nil)
    (pss_one (ps_for PassesOwn.never rfl (pi_range1 (by rfl) B.range (pa_cons (pe_callB (k_len K) (by rfl) B.len (by decide +kernel) (pa_cons (pv 3) pa_nil)) pa_nil)) (pg_name (i := 5) sc_law.nd rfl (by first | exact Or.inl rfl | exact Or.inr rfl))
      (pss_cons (ps_setLc (i := 6) (own := [("_law_move", 7)]) (by rfl) sc_law.nd rfl rfl (sw_true rfl rfl rfl (by decide +kernel)) (k_seq K (pe_cal c_l_moves hr (pa_cons (pv 3) (pa_cons (pv 5) pa_nil)))) (blkOk_by (own := [("_law_move", 7)]) (N := ["_law_script", "_law_town", "_law_k", "_law_game", "_law_due", "_law_place", "_law_best", "_law_move", "_law_line"]) (sc := defScope s_law) (by decide +kernel)) (fun _ _ _ _ _ => (pg_name (i := 7) sc_law.nd rfl (by first | exact Or.inl rfl | exact Or.inr rfl))) (fun _ _ _ _ _ => pts_one (pt_cmpR (k_eq K hr.units) (pe_ix (k_ix K) (pv 4) (pv 7) (fun _ _ => rfl)) (pe_ix (k_ix K) (pv 4) (pv 5) (fun _ _ => rfl)) (nomark _))) (fun _ _ _ _ _ => (pv 7)))
      (pss_cons (ps_if (pt_not (k_tru K (pe_cal c_l_same hr (pa_cons (pe_cal c_best_moves hr (pa_cons (pv 3) (pa_cons (pv 5) pa_nil))) (pa_cons (pe_callTy (k_tuple K) (by rfl) B.tuple (by decide +kernel) (pa_cons (pv 6) pa_nil)) pa_nil))) (by intro _; rfl)))
        (pss_one (ps_ret pe_bl))
        pss_nil)
      (pss_cons (ps_set (i := 8) sc_law.nd rfl (by first | exact Or.inl rfl | exact Or.inr rfl) (pe_lst (pa_cons (pv 5) pa_nil)))
      (pss_cons (ps_while PassesOwn.never (k_tru K (pe_cal c_l_moves hr (pa_cons (pv 3) (pa_cons (pe_ix (k_ix K) (pv 8) (pe_un un_neg pe_int) (fun _ _ => rfl)) pa_nil))) (by intro _; rfl))
        (pss_one (ps_expr (pe_bm PySem.F.plainAttrs_list PySem.F.slot_list_append PySem.F.type_list_append mt_append (pv 8) (pa_cons (pe_ix (k_ix K) (pe_lc (own := [("_law_move", 7)]) (by rfl) sc_law.nd (k_seq K (pe_cal c_l_moves hr (pa_cons (pv 3) (pa_cons (pe_ix (k_ix K) (pv 8) (pe_un un_neg pe_int) (fun _ _ => rfl)) pa_nil)))) (blkOk_by (own := [("_law_move", 7)]) (N := ["_law_script", "_law_town", "_law_k", "_law_game", "_law_due", "_law_place", "_law_best", "_law_move", "_law_line"]) (sc := defScope s_law) (by decide +kernel)) (fun _ _ _ _ _ => (pg_name (i := 7) sc_law.nd rfl (by first | exact Or.inl rfl | exact Or.inr rfl))) (fun _ _ _ _ _ => pts_one (pt_cmpR (k_eq K hr.units) (pe_ix (k_ix K) (pv 4) (pv 7) (fun _ _ => rfl)) (pe_ix (k_ix K) (pv 4) (pv 5) (fun _ _ => rfl)) (nomark _))) (fun _ _ _ _ _ => (pv 7))) pe_int (fun _ _ => rfl)) pa_nil)))))
      (pss_one (ps_if (pt_not (k_tru K (pe_cal c_l_same hr (pa_cons (pe_cal c_main_line hr (pa_cons (pv 3) (pa_cons (pv 5) pa_nil))) (pa_cons (pe_callTy (k_tuple K) (by rfl) B.tuple (by decide +kernel) (pa_cons (pv 8) pa_nil)) pa_nil))) (by intro _; rfl)))
        (pss_one (ps_ret pe_bl))
        pss_nil))))))))))))
  (pss_one (ps_ret pe_bl)))), ?_⟩)
  try simp only [cxK]
  exact run_fn (x := m_law_k05 F_l_straight F_l_draw F_l_worth F_l_same F_worths F_l_moves F_best_moves F_main_line)
    ((x_seq (x_newL (s_lst s_nil))
  (x_seq (x_for (s_iwipe (s_irg1 s_int)) b_name
    (x_keep (x_seq (x_asg (s_call (s_vcons (s_vE s_var) (s_vcons s_vR (s_vcons (s_vE (s_op ro_plus s_int (s_call (s_vcons (s_vE s_var) (s_vcons s_vR (s_vcons (s_vE s_int) s_vnil))) (vn_cons (vn_cons (vn_cons vn_nil)))))) s_vnil))) (vn_cons (vn_cons (vn_cons vn_nil)))))
    (x_seq (x_asg (s_ofL (s_lc (vs := [5]) (s_irg1 (s_cb rc_len (s_cons s_var s_nil))) (gin_name (by decide)) gmono_name b_name s_yes (s_call (s_vcons (s_vE s_var) (s_vcons (s_vE s_var) s_vnil)) (vn_cons (vn_cons vn_nil))))))
    (x_seq (x_if (s_bnot (s_tru (s_call (s_vcons (s_vE (s_call (s_vcons (s_vE s_var) s_vnil) (vn_cons vn_nil))) (s_vcons (s_vE (s_cb rc_tuple (s_cons s_var s_nil))) s_vnil)) (vn_cons (vn_cons vn_nil)))))
      (x_ret s_bl)
      x_next)
    (x_for (s_iwipe (s_irg1 (s_cb rc_len (s_cons s_var s_nil)))) b_name
      (x_keep (x_seq (x_asg (s_ofL (s_lc (vs := [7]) (s_iseq (s_call (s_vcons (s_vE s_var) (s_vcons (s_vE s_var) s_vnil)) (vn_cons (vn_cons vn_nil)))) (gin_name (by decide)) gmono_name b_name (s_test (s_op ro_eq (s_op ro_ix s_var s_var) (s_op ro_ix s_var s_var))) s_var)))
      (x_seq (x_if (s_bnot (s_tru (s_call (s_vcons (s_vE (s_call (s_vcons (s_vE s_var) (s_vcons (s_vE s_var) s_vnil)) (vn_cons (vn_cons vn_nil)))) (s_vcons (s_vE (s_cb rc_tuple (s_cons s_var s_nil))) s_vnil)) (vn_cons (vn_cons vn_nil)))))
        (x_ret s_bl)
        x_next)
      (x_seq (x_asgL (s_lst (s_cons s_var s_nil)))
      (x_seq (x_pre (x_while (s_tru (s_call (s_vcons (s_vE s_var) (s_vcons (s_vE (s_ixV (s_un ro_neg s_int))) s_vnil)) (vn_cons (vn_cons vn_nil))))
        (x_keep (x_app (s_op ro_ix (s_ofL (s_lc (vs := [7]) (s_iseq (s_call (s_vcons (s_vE s_var) (s_vcons (s_vE (s_ixV (s_un ro_neg s_int))) s_vnil)) (vn_cons (vn_cons vn_nil)))) (gin_name (by decide)) gmono_name b_name (s_test (s_op ro_eq (s_op ro_ix s_var s_var) (s_op ro_ix s_var s_var))) s_var)) s_int)))))
      (x_if (s_bnot (s_tru (s_call (s_vcons (s_vE (s_call (s_vcons (s_vE s_var) (s_vcons (s_vE s_var) s_vnil)) (vn_cons (vn_cons vn_nil)))) (s_vcons (s_vE s_tupleV) s_vnil)) (vn_cons (vn_cons vn_nil)))))
        (x_ret s_bl)
        x_next))))))))))))
  (x_ret s_bl))))
    rfl h

theorem law_all {h : Heap} (X : K.In h) (G : h.Ns mainGlobals mg) {fa : Addr} (hfa : mg "law" = some (.ref fa))
    (d_moves_of : DefAt K "moves_of" s_moves_of)
    (d_order_of : DefAt K "order_of" s_order_of)
    (d_choice : DefAt K "choice" s_choice)
    (d_worths : DefAt K "worths" s_worths)
    (d_best_moves : DefAt K "best_moves" s_best_moves)
    (d_main_line : DefAt K "main_line" s_main_line)
    (d_l_same : DefAt K "_law_same" s_l_same)
    (d_l_draw : DefAt K "_law_draw" s_l_draw)
    (d_l_pick : DefAt K "_law_pick" s_l_pick)
    (d_l_mixed : DefAt K "_law_mixed" s_l_mixed)
    (d_l_drawn_worth : DefAt K "_law_drawn_worth" s_l_drawn_worth)
    (d_l_straight : DefAt K "_law_straight" s_l_straight)
    (d_l_moves : DefAt K "_law_moves" s_l_moves)
    (d_l_worth : DefAt K "_law_worth" s_l_worth)
    (d_law : DefAt K "law" s_law)
    
    (z_len : PySem.W.nsIn K mainGlobals "len" = some none) (z_list : PySem.W.nsIn K mainGlobals "list" = some none) (z_tuple : PySem.W.nsIn K mainGlobals "tuple" = some none) (z_range : PySem.W.nsIn K mainGlobals "range" = some none) (z_zip : PySem.W.nsIn K mainGlobals "zip" = some none) (z_enumerate : PySem.W.nsIn K mainGlobals "enumerate" = some none) (z_abs : PySem.W.nsIn K mainGlobals "abs" = some none) (z_max : PySem.W.nsIn K mainGlobals "max" = some none) (z_min : PySem.W.nsIn K mainGlobals "min" = some none) (z_sum : PySem.W.nsIn K mainGlobals "sum" = some none) (z_all : PySem.W.nsIn K mainGlobals "all" = some none) (z_any : PySem.W.nsIn K mainGlobals "any" = some none) (z_sorted : PySem.W.nsIn K mainGlobals "sorted" = some none) (z_isinstance : PySem.W.nsIn K mainGlobals "isinstance" = some none) (z_int : PySem.W.nsIn K mainGlobals "int" = some none) (z_bool : PySem.W.nsIn K mainGlobals "bool" = some none) (z_str : PySem.W.nsIn K mainGlobals "str" = some none) :
    ∃ fd : FuncData, (∀ (s : Shared) (v : Value), BindsTo s fd ⟨[v], []⟩ [("_law_script", v)]) ∧ ∀ base : Heap, K.In base → base.Ns mainGlobals mg → FnOk P w K mg base CX0 41 fa fd ["_law_script"] (spLaw K) := by
  have B : Bn mg := ⟨PySem.W.mg_none_of X G z_len, PySem.W.mg_none_of X G z_list, PySem.W.mg_none_of X G z_tuple, PySem.W.mg_none_of X G z_range, PySem.W.mg_none_of X G z_zip, PySem.W.mg_none_of X G z_enumerate, PySem.W.mg_none_of X G z_abs, PySem.W.mg_none_of X G z_max, PySem.W.mg_none_of X G z_min, PySem.W.mg_none_of X G z_sum, PySem.W.mg_none_of X G z_all, PySem.W.mg_none_of X G z_any, PySem.W.mg_none_of X G z_sorted, PySem.W.mg_none_of X G z_isinstance, PySem.W.mg_none_of X G z_int, PySem.W.mg_none_of X G z_bool, PySem.W.mg_none_of X G z_str⟩
  obtain ⟨ad_moves_of, fd_moves_of, F_moves_of, g_moves_of⟩ := d_moves_of.ex X G
  have B_moves_of := F_moves_of.binds (ps := ["game", "place"]) fun _ _ _ _ _ _ us hl => match us, hl with | [_, _], _ => rfl
  obtain ⟨ad_order_of, fd_order_of, F_order_of, g_order_of⟩ := d_order_of.ex X G
  have B_order_of := F_order_of.binds (ps := ["game"]) fun _ _ _ _ _ _ us hl => match us, hl with | [_], _ => rfl
  obtain ⟨ad_choice, fd_choice, F_choice, g_choice⟩ := d_choice.ex X G
  have B_choice := F_choice.binds (ps := ["side", "row"]) fun _ _ _ _ _ _ us hl => match us, hl with | [_, _], _ => rfl
  obtain ⟨ad_worths, fd_worths, F_worths, g_worths⟩ := d_worths.ex X G
  have B_worths := F_worths.binds (ps := ["game"]) fun _ _ _ _ _ _ us hl => match us, hl with | [_], _ => rfl
  obtain ⟨ad_best_moves, fd_best_moves, F_best_moves, g_best_moves⟩ := d_best_moves.ex X G
  have B_best_moves := F_best_moves.binds (ps := ["game", "place"]) fun _ _ _ _ _ _ us hl => match us, hl with | [_, _], _ => rfl
  obtain ⟨ad_main_line, fd_main_line, F_main_line, g_main_line⟩ := d_main_line.ex X G
  have B_main_line := F_main_line.binds (ps := ["game", "place"]) fun _ _ _ _ _ _ us hl => match us, hl with | [_, _], _ => rfl
  obtain ⟨ad_l_same, fd_l_same, F_l_same, g_l_same⟩ := d_l_same.ex X G
  have B_l_same := F_l_same.binds (ps := ["_law_got", "_law_due"]) fun _ _ _ _ _ _ us hl => match us, hl with | [_, _], _ => rfl
  obtain ⟨ad_l_draw, fd_l_draw, F_l_draw, g_l_draw⟩ := d_l_draw.ex X G
  have B_l_draw := F_l_draw.binds (ps := ["_law_script", "_law_town", "_law_many"]) fun _ _ _ _ _ _ us hl => match us, hl with | [_, _, _], _ => rfl
  obtain ⟨ad_l_pick, fd_l_pick, F_l_pick, g_l_pick⟩ := d_l_pick.ex X G
  have B_l_pick := F_l_pick.binds (ps := ["_law_script", "_law_town", "_law_some"]) fun _ _ _ _ _ _ us hl => match us, hl with | [_, _, _], _ => rfl
  obtain ⟨ad_l_mixed, fd_l_mixed, F_l_mixed, g_l_mixed⟩ := d_l_mixed.ex X G
  have B_l_mixed := F_l_mixed.binds (ps := ["_law_script", "_law_town", "_law_things"]) fun _ _ _ _ _ _ us hl => match us, hl with | [_, _, _], _ => rfl
  obtain ⟨ad_l_drawn_worth, fd_l_drawn_worth, F_l_drawn_worth, g_l_drawn_worth⟩ := d_l_drawn_worth.ex X G
  have B_l_drawn_worth := F_l_drawn_worth.binds (ps := ["_law_script", "_law_town"]) fun _ _ _ _ _ _ us hl => match us, hl with | [_, _], _ => rfl
  obtain ⟨ad_l_straight, fd_l_straight, F_l_straight, g_l_straight⟩ := d_l_straight.ex X G
  have B_l_straight := F_l_straight.binds (ps := ["_law_script", "_law_town", "_law_many"]) fun _ _ _ _ _ _ us hl => match us, hl with | [_, _, _], _ => rfl
  obtain ⟨ad_l_moves, fd_l_moves, F_l_moves, g_l_moves⟩ := d_l_moves.ex X G
  have B_l_moves := F_l_moves.binds (ps := ["_law_game", "_law_place"]) fun _ _ _ _ _ _ us hl => match us, hl with | [_, _], _ => rfl
  obtain ⟨ad_l_worth, fd_l_worth, F_l_worth, g_l_worth⟩ := d_l_worth.ex X G
  have B_l_worth := F_l_worth.binds (ps := ["_law_game", "_law_place"]) fun _ _ _ _ _ _ us hl => match us, hl with | [_, _], _ => rfl
  obtain ⟨f, oc, od, kV, dc, pm, an, cd, ct, sl, a, l, c, kk⟩ := d_law.at_
  have e := hfa.symm.trans (PySem.W.mg_of X G a)
  cases e
  refine ⟨PySem.W.fnOf "law" "law" (defArgs s_law) (defBody s_law) (defScope s_law) .none kV dc pm an cd ct, fun s v => .of_eq rfl, fun base _ _ => ?_⟩
  have e_moves_of : Cal P w K mg base 1 "moves_of" ["game", "place"] (spG K 2 f_moves_of) := ⟨ad_moves_of, fd_moves_of, ok_moves_of (k := 0) F_moves_of B , g_moves_of, F_moves_of.kp, B_moves_of⟩
  have e_order_of : Cal P w K mg base 2 "order_of" ["game"] (spG K 1 f_order_of) := ⟨ad_order_of, fd_order_of, ok_order_of (k := 1) F_order_of B (e_moves_of.mono (by decide)), g_order_of, F_order_of.kp, B_order_of⟩
  have e_choice : Cal P w K mg base 1 "choice" ["side", "row"] (spG K 2 f_choice) := ⟨ad_choice, fd_choice, ok_choice (k := 0) F_choice B , g_choice, F_choice.kp, B_choice⟩
  have e_worths : Cal P w K mg base 3 "worths" ["game"] (spG K 1 f_worths) := ⟨ad_worths, fd_worths, ok_worths (k := 2) F_worths B (e_order_of.mono (by decide)) (e_choice.mono (by decide)), g_worths, F_worths.kp, B_worths⟩
  have e_best_moves : Cal P w K mg base 4 "best_moves" ["game", "place"] (spG K 2 f_best_moves) := ⟨ad_best_moves, fd_best_moves, ok_best_moves (k := 3) F_best_moves B (e_worths.mono (by decide)) (e_moves_of.mono (by decide)), g_best_moves, F_best_moves.kp, B_best_moves⟩
  have e_main_line : Cal P w K mg base 4 "main_line" ["game", "place"] (spG K 2 f_main_line) := ⟨ad_main_line, fd_main_line, ok_main_line (k := 3) F_main_line B (e_worths.mono (by decide)) (e_moves_of.mono (by decide)), g_main_line, F_main_line.kp, B_main_line⟩
  have a_l_same : ∀ n, Cal P w K mg base (0 + n) "_law_same" ["_law_got", "_law_due"] (spG K 2 (r_l_same n)) := fun n => by
    induction n with
    | zero => exact cal_zero g_l_same F_l_same.kp B_l_same _
    | succ n ih => exact ⟨ad_l_same, fd_l_same, ok_l_same (k := 0 + n) F_l_same B ih, g_l_same, F_l_same.kp, B_l_same⟩
  have e_l_same : Cal P w K mg base 8 "_law_same" ["_law_got", "_law_due"] (spG K 2 f_l_same) := a_l_same 8
  have e_l_draw : Cal P w K mg base 1 "_law_draw" ["_law_script", "_law_town", "_law_many"] (spG K 3 f_l_draw) := ⟨ad_l_draw, fd_l_draw, ok_l_draw (k := 0) F_l_draw B , g_l_draw, F_l_draw.kp, B_l_draw⟩
  have e_l_pick : Cal P w K mg base 2 "_law_pick" ["_law_script", "_law_town", "_law_some"] (spG K 3 f_l_pick) := ⟨ad_l_pick, fd_l_pick, ok_l_pick (k := 1) F_l_pick B (e_l_draw.mono (by decide)), g_l_pick, F_l_pick.kp, B_l_pick⟩
  have e_l_mixed : Cal P w K mg base 2 "_law_mixed" ["_law_script", "_law_town", "_law_things"] (spG K 3 f_l_mixed) := ⟨ad_l_mixed, fd_l_mixed, ok_l_mixed (k := 1) F_l_mixed B (e_l_draw.mono (by decide)), g_l_mixed, F_l_mixed.kp, B_l_mixed⟩
  have e_l_drawn_worth : Cal P w K mg base 3 "_law_drawn_worth" ["_law_script", "_law_town"] (spG K 2 f_l_drawn_worth) := ⟨ad_l_drawn_worth, fd_l_drawn_worth, ok_l_drawn_worth (k := 2) F_l_drawn_worth B (e_l_draw.mono (by decide)) (e_l_pick.mono (by decide)), g_l_drawn_worth, F_l_drawn_worth.kp, B_l_drawn_worth⟩
  have e_l_straight : Cal P w K mg base 4 "_law_straight" ["_law_script", "_law_town", "_law_many"] (spG K 3 f_l_straight) := ⟨ad_l_straight, fd_l_straight, ok_l_straight (k := 3) F_l_straight B (e_l_draw.mono (by decide)) (e_l_mixed.mono (by decide)) (e_l_drawn_worth.mono (by decide)), g_l_straight, F_l_straight.kp, B_l_straight⟩
  have e_l_moves : Cal P w K mg base 1 "_law_moves" ["_law_game", "_law_place"] (spG K 2 f_l_moves) := ⟨ad_l_moves, fd_l_moves, ok_l_moves (k := 0) F_l_moves B , g_l_moves, F_l_moves.kp, B_l_moves⟩
  have a_l_worth : ∀ n, Cal P w K mg base (0 + n) "_law_worth" ["_law_game", "_law_place"] (spG K 2 (r_l_worth n)) := fun n => by
    induction n with
    | zero => exact cal_zero g_l_worth F_l_worth.kp B_l_worth _
    | succ n ih => exact ⟨ad_l_worth, fd_l_worth, ok_l_worth (k := 0 + n) F_l_worth B ih, g_l_worth, F_l_worth.kp, B_l_worth⟩
  have e_l_worth : Cal P w K mg base 40 "_law_worth" ["_law_game", "_law_place"] (spG K 2 f_l_worth) := a_l_worth 40
  exact law_of (F := f_law_k05) (ok_law (k := 40) (fun_mk l c kk) B (e_l_straight.mono (by decide)) (e_l_draw.mono (by decide)) (e_l_worth.mono (by decide)) (e_l_same.mono (by decide)) (e_worths.mono (by decide)) (e_l_moves.mono (by decide)) (e_best_moves.mono (by decide)) (e_main_line.mono (by decide))) law_true
end W
open PySem PySem.W PyProof.Rows
set_option maxRecDepth 100000 in
set_option maxHeartbeats 0 in
theorem PySem.Challenge.cw_searchduel_k05_worths_by_all_lines_holds : PySem.Challenge.rw_searchduel_k05_worths_by_all_lines.Holds := by
  w_on; o_law; k_head; (case hw => w_witness2)
  k_fill
  refine L2.walk_of (l := PySem.Challenge.rw_searchduel_k05_worths_by_all_lines) (n := 63) (k := 41) (x := "_law_script") (CX := fun _ => L2.CX0) (sp := fun w => Sm.spLaw _) rfl (by decide) rfl ⟨rfl, by decide, by decide⟩ (fun w h Y => PySem.W.kIn_of Y) ?F (fun _ _ a ns hl _ hS => ⟨a, ns, rfl, hS, hl, fun _ => rfl⟩) (fun _ _ _ _ _ h => h)
  case F =>
    intro w mg fa h KX G hmg
    refine' W.law_all KX G hmg (W.def_at ?a_moves_of ?l_moves_of ?c_moves_of ?k_moves_of) (W.def_at ?a_order_of ?l_order_of ?c_order_of ?k_order_of) (W.def_at ?a_choice ?l_choice ?c_choice ?k_choice) (W.def_at ?a_worths ?l_worths ?c_worths ?k_worths) (W.def_at ?a_best_moves ?l_best_moves ?c_best_moves ?k_best_moves) (W.def_at ?a_main_line ?l_main_line ?c_main_line ?k_main_line) (W.def_at ?a_l_same ?l_l_same ?c_l_same ?k_l_same) (W.def_at ?a_l_draw ?l_l_draw ?c_l_draw ?k_l_draw) (W.def_at ?a_l_pick ?l_l_pick ?c_l_pick ?k_l_pick) (W.def_at ?a_l_mixed ?l_l_mixed ?c_l_mixed ?k_l_mixed) (W.def_at ?a_l_drawn_worth ?l_l_drawn_worth ?c_l_drawn_worth ?k_l_drawn_worth) (W.def_at ?a_l_straight ?l_l_straight ?c_l_straight ?k_l_straight) (W.def_at ?a_l_moves ?l_l_moves ?c_l_moves ?k_l_moves) (W.def_at ?a_l_worth ?l_l_worth ?c_l_worth ?k_l_worth) (W.def_at ?a_law ?l_law ?c_law ?k_law)  ?z_len ?z_list ?z_tuple ?z_range ?z_zip ?z_enumerate ?z_abs ?z_max ?z_min ?z_sum ?z_all ?z_any ?z_sorted ?z_isinstance ?z_int ?z_bool ?z_str
    (case a_moves_of => k_is); (case l_moves_of => k_is); (case c_moves_of => k_is); (case k_moves_of => k_is)
    (case a_order_of => k_is); (case l_order_of => k_is); (case c_order_of => k_is); (case k_order_of => k_is)
    (case a_choice => k_is); (case l_choice => k_is); (case c_choice => k_is); (case k_choice => k_is)
    (case a_worths => k_is); (case l_worths => k_is); (case c_worths => k_is); (case k_worths => k_is)
    (case a_best_moves => k_is); (case l_best_moves => k_is); (case c_best_moves => k_is); (case k_best_moves => k_is)
    (case a_main_line => k_is); (case l_main_line => k_is); (case c_main_line => k_is); (case k_main_line => k_is)
    (case a_l_same => k_is); (case l_l_same => k_is); (case c_l_same => k_is); (case k_l_same => k_is)
    (case a_l_draw => k_is); (case l_l_draw => k_is); (case c_l_draw => k_is); (case k_l_draw => k_is)
    (case a_l_pick => k_is); (case l_l_pick => k_is); (case c_l_pick => k_is); (case k_l_pick => k_is)
    (case a_l_mixed => k_is); (case l_l_mixed => k_is); (case c_l_mixed => k_is); (case k_l_mixed => k_is)
    (case a_l_drawn_worth => k_is); (case l_l_drawn_worth => k_is); (case c_l_drawn_worth => k_is); (case k_l_drawn_worth => k_is)
    (case a_l_straight => k_is); (case l_l_straight => k_is); (case c_l_straight => k_is); (case k_l_straight => k_is)
    (case a_l_moves => k_is); (case l_l_moves => k_is); (case c_l_moves => k_is); (case k_l_moves => k_is)
    (case a_l_worth => k_is); (case l_l_worth => k_is); (case c_l_worth => k_is); (case k_l_worth => k_is)
    (case a_law => k_is); (case l_law => k_is); (case c_law => k_is); (case k_law => k_is)
    (case z_len => k_is); (case z_list => k_is); (case z_tuple => k_is); (case z_range => k_is); (case z_zip => k_is); (case z_enumerate => k_is); (case z_abs => k_is); (case z_max => k_is); (case z_min => k_is); (case z_sum => k_is); (case z_all => k_is); (case z_any => k_is); (case z_sorted => k_is); (case z_isinstance => k_is); (case z_int => k_is); (case z_bool => k_is); (case z_str => k_is)

